import PyProof.Rows.All
import Wide.All
import OpenK.AllK
import Wide.FinOn
import HandS.ForMost
import HandS.Deep
import HandS.IsInst
import HandS.Style
import HandS.TupAny
import HandS.TupMul
import HandS.Conv
import HandS.SortInts
import HandS.RevRange
import HandS.SetFor
import HandS.Strs
import PySem.Challenge.RW_noghostkey_k49_what_surely_opens
set_option Elab.async false
set_option linter.all false
set_option maxRecDepth 100000
set_option maxHeartbeats 8000000
/-! NG0: a small language of its own, its evaluation, and the reading of the model's trees into it. -/
namespace NG
open PySem L2

abbrev D := PyData

/-! ### the small language -/
inductive Op where
  | add | sub | mul | mod | fdiv | pow
  | eq | ne | lt | le | gt | ge | isN | isnt | inn | notin | idx
  deriving DecidableEq
inductive Bi where
  | len | sum | all | any | min | max | abs | int | tuple | list | sorted | str
  deriving DecidableEq
inductive Ty where
  | bool | int | str | tuple | list | none
  deriving DecidableEq
inductive Tg where
  | name (i : Nat)
  | tup (is : List Nat)
  deriving DecidableEq

mutual
inductive E where
  | var (i : Nat)
  | cN
  | cB (b : Bool)
  | cI (i : Int)
  | cS (s : Str)
  | bin (o : Op) (a b : E)
  | chain (o o' : Op) (a b c : E)
  | neg (a : E)
  | not (a : E)
  | and (a b : E)
  | or (a b : E)
  | ite (c a b : E)
  | tup (es : Es)
  | lst (es : Es)
  | sli (a : E) (lo hi : Oe)
  | call (f : Nat) (es : Es)
  | bi (b : Bi) (es : Es)
  | birng (b : Bi) (r : It)
  | pop (i : Nat)
  | isi (a : E) (t : Ty)
  | comp (elt : E) (tg : Tg) (it : It) (c : Oe) (own : List Nat)
  | comp2 (elt : E) (tg : Tg) (it : It) (c : Oe) (tg2 : Tg) (it2 : It) (c2 : Oe) (own own2 : List Nat)
  | sset (a : E)
inductive Es where
  | nil
  | cons (e : E) (es : Es)
inductive Oe where
  | none
  | some (e : E)
inductive It where
  | e (e : E)
  | r1 (a : E)
  | r2 (a b : E)
  | r3 (a b c : E)
end

mutual
inductive S where
  | asg (tg : Tg) (e : E)
  | aug (i : Nat) (o : Op) (e : E)
  | seti (i : Nat) (ix e : E)
  | app (i : Nat) (e : E)
  | rev (i : Nat)
  | expr (e : E)
  | ret (e : E)
  | retN
  | iff (c : E) (a b : Ss)
  | for (tg : Tg) (it : It) (body : Ss)
  | while (c : E) (body : Ss)
  | brk
  | cont
  | pass
inductive Ss where
  | nil
  | cons (s : S) (ss : Ss)
end

/-! ### values, slots -/
inductive Sl where
  | un
  | im (d : D)
  | mu (ds : List D)
  | pm (ds : List D)
  | bo (ds : List D)
abbrev NEnv := List Sl
inductive RV where
  | dat (d : D)
  | new (ds : List D)
def RV.d : RV → D
  | .dat d => d
  | .new ds => .list ds
inductive CArg where
  | im (d : D)
  | cell (ds : List D)
inductive BV where
  | val (d : D)
  | slot (i : Nat)
inductive AV where
  | im (d : D)
  | bor (i : Nat)
  | cell (i : Nat)
structure CL where
  md : Nat → List Bool
  run : Nat → List CArg → Option (RV × List (List D))
inductive Out where
  | nx (e : NEnv)
  | bk (e : NEnv)
  | ct (e : NEnv)
  | rt (r : RV) (e : NEnv)

def slD : Sl → Option D
  | .un => none
  | .im d => some d
  | .mu ds => some (.list ds)
  | .pm ds => some (.list ds)
  | .bo ds => some (.list ds)
def flat : D → Bool
  | .none => true
  | .bool _ => true
  | .int _ => true
  | .str _ => true
  | _ => false
def RV.flat : RV → Bool
  | .dat d => NG.flat d
  | .new _ => false

/-! ### operators on data -/
def mulOk (i j : Int) : Bool := (decide (-(2 ^ 64) < i) && decide (i < 2 ^ 64)) || (decide (-(2 ^ 64) < j) && decide (j < 2 ^ 64))
abbrev ixn := L2.ixN
def shal (x y : D) : Bool := decide (min x.depth y.depth ≤ 64)
def shalL (x : D) (ys : List D) : Bool := decide (min (PyData.depthAll ys) x.depth ≤ 64)
def isIn (x : D) : List D → Bool
  | [] => false
  | y :: ys => PyData.eqv y x || isIn x ys
def sub? (o : Op) : Bool := match o with | .eq | .ne | .lt | .le | .gt | .ge | .isN | .isnt | .inn | .notin => true | _ => false

def isNon : D → Bool
  | .none => true
  | _ => false
def isOp (x y : D) : Option Bool := match y with
  | .none => some (isNon x)
  | .bool b => match x with
    | .bool a => some (decide (a = b))
    | _ => none
  | _ => none

def op2 (o : Op) (x y : D) : Option RV := match o with
  | .add => match x, y with
    | .int i, .int j => some (.dat (.int (i + j)))
    | .tuple xs, .tuple ys => if xs.length + ys.length ≤ 16777216 then some (.dat (.tuple (xs ++ ys))) else none
    | .list xs, .list ys => if xs.length + ys.length ≤ 16777216 then some (.new (xs ++ ys)) else none
    | .str a, .str b => if a.length + b.length ≤ 16777216 then some (.dat (.str (a ++ b))) else none
    | _, _ => none
  | .sub => match x, y with
    | .int i, .int j => some (.dat (.int (i - j)))
    | _, _ => none
  | .mul => match x, y with
    | .int i, .int j => if mulOk i j then some (.dat (.int (i * j))) else none
    | _, _ => none
  | .mod => match x, y with
    | .int i, .int j => if j ≠ 0 then some (.dat (.int (i.fmod j))) else none
    | _, _ => none
  | .fdiv => match x, y with
    | .int i, .int j => if j ≠ 0 ∧ j.natAbs < 1073741824 then some (.dat (.int (i.fdiv j))) else none
    | _, _ => none
  | .pow => match x, y with
    | .int i, .int j => if 0 ≤ j ∧ j ≤ 1000000 ∧ i.natAbs < 2 ^ 64 then some (.dat (.int (i ^ j.toNat))) else none
    | _, _ => none
  | .eq => if shal x y then some (.dat (.bool (PyData.eqv x y))) else none
  | .ne => if shal x y then some (.dat (.bool (!PyData.eqv x y))) else none
  | .lt => match x, y with
    | .int i, .int j => some (.dat (.bool (decide (i < j))))
    | _, _ => none
  | .le => match x, y with
    | .int i, .int j => some (.dat (.bool (decide (i ≤ j))))
    | _, _ => none
  | .gt => match x, y with
    | .int i, .int j => some (.dat (.bool (decide (j < i))))
    | _, _ => none
  | .ge => match x, y with
    | .int i, .int j => some (.dat (.bool (decide (j ≤ i))))
    | _, _ => none
  | .isN => (isOp x y).map fun b => .dat (.bool b)
  | .isnt => (isOp x y).map fun b => .dat (.bool (!b))
  | .inn => match y with
    | .list ys => if shalL x ys then some (.dat (.bool (isIn x ys))) else none
    | .tuple ys => if shalL x ys then some (.dat (.bool (isIn x ys))) else none
    | _ => none
  | .notin => match y with
    | .list ys => if shalL x ys then some (.dat (.bool (!isIn x ys))) else none
    | .tuple ys => if shalL x ys then some (.dat (.bool (!isIn x ys))) else none
    | _ => none
  | .idx => match x, y with
    | .list xs, .int i => match ixn xs.length i with
      | some j => (xs[j]?).map RV.dat
      | none => none
    | .tuple xs, .int i => match ixn xs.length i with
      | some j => (xs[j]?).map RV.dat
      | none => none
    | .str s, .int i => match ixn s.cps.toList.length i with
      | some j => (s.cps.toList[j]?).map fun c => RV.dat (.str ⟨#[c]⟩)
      | none => none
    | _, _ => none

def chainOp (o : Op) (x y : D) : Option Bool := match op2 o x y with
  | some (.dat (.bool b)) => some b
  | _ => none

/-! ### builtins on data -/
def intsOf : List D → Option (List Int)
  | [] => some []
  | .int i :: r => (intsOf r).map (i :: ·)
  | _ :: _ => none
def blsOf : List D → Option (List Bool)
  | [] => some []
  | .bool b :: r => (blsOf r).map (b :: ·)
  | _ :: _ => none
def seqOf : D → Option (List D)
  | .list xs => some xs
  | .tuple xs => some xs
  | _ => none
def lenD : D → Option Nat
  | .list xs => some xs.length
  | .tuple xs => some xs.length
  | .str s => some s.length
  | _ => none
def maxL : List Int → Option Int
  | [] => none
  | x :: xs => some (xs.foldl (fun a b => if b > a then b else a) x)
def minL : List Int → Option Int
  | [] => none
  | x :: xs => some (xs.foldl (fun a b => if b < a then b else a) x)
def insI (x : Int) : List Int → List Int
  | [] => [x]
  | y :: ys => if x ≤ y then x :: y :: ys else y :: insI x ys
def sortI : List Int → List Int
  | [] => []
  | x :: xs => insI x (sortI xs)
def insU (x : Int) : List Int → List Int
  | [] => [x]
  | y :: ys => if x < y then x :: y :: ys else if x = y then y :: ys else y :: insU x ys
def sortU : List Int → List Int
  | [] => []
  | x :: xs => insU x (sortU xs)
/-- sorted(set(x)) -/
def ssetD (x : D) : Option RV := match seqOf x with
  | some xs => match intsOf xs with
    | some ns => if ns.length < 4000 ∧ (sortU ns).length < 64 then some (.new ((sortU ns).map PyData.int)) else none
    | none => none
  | none => none
def bi1 (b : Bi) (x : D) : Option RV := match b with
  | .len => (lenD x).map fun (n : Nat) => RV.dat (PyData.int (n : Int))
  | .sum => match x with
    | .list xs => (intsOf xs).map fun ns => .dat (.int ns.sum)
    | _ => none
  | .all => match x with
    | .list xs => (blsOf xs).map fun bs => .dat (.bool (bs.all id))
    | _ => none
  | .any => match x with
    | .list xs => (blsOf xs).map fun bs => .dat (.bool (bs.any id))
    | _ => none
  | .min => match x with
    | .list xs => match intsOf xs with
      | some ns => (minL ns).map fun m => .dat (.int m)
      | none => none
    | _ => none
  | .max => match x with
    | .list xs => match intsOf xs with
      | some ns => (maxL ns).map fun m => .dat (.int m)
      | none => none
    | _ => none
  | .abs => match x with
    | .int i => some (.dat (.int (if i < 0 then -i else i)))
    | _ => none
  | .int => match x with
    | .int i => some (.dat (.int i))
    | .bool k => some (.dat (.int (if k then 1 else 0)))
    | _ => none
  | .tuple => (seqOf x).map fun xs => .dat (.tuple xs)
  | .list => (seqOf x).map fun xs => .new xs
  | .sorted => match x with
    | .list xs => (intsOf xs).map fun ns => .new ((sortI ns).map PyData.int)
    | _ => none
  | .str => none
def bi2 (b : Bi) (x y : D) : Option RV := match b, x, y with
  | .min, .int i, .int j => some (.dat (.int (if j < i then j else i)))
  | .max, .int i, .int j => some (.dat (.int (if j > i then j else i)))
  | _, _, _ => none
def biR (b : Bi) (xs : List D) : Option RV := match b with
  | .tuple => some (.dat (.tuple xs))
  | .list => some (.new xs)
  | _ => none
def tyOk (t : Ty) (x : D) : Option Bool := match t, x with
  | .bool, .bool _ => some true
  | .bool, _ => some false
  | .int, .int _ => some true
  | .int, .bool _ => some true
  | .int, _ => some false
  | .str, .str _ => some true
  | .str, _ => some false
  | .tuple, .tuple _ => some true
  | .tuple, _ => some false
  | .list, .list _ => some true
  | .list, _ => some false
  | .none, _ => none
def sixD (n d : Nat) : Option Int → Nat
  | none => d
  | some v => if v < 0 then (v + n).toNat else Nat.min v.toNat n
def cutD (xs : List D) (lo hi : Option Int) : List D := (xs.drop (HT.sIx xs.length 0 lo)).take (HT.sIx xs.length xs.length hi - HT.sIx xs.length 0 lo)
def sliD (x : D) (lo hi : Option Int) : Option RV := match x with
  | .list xs => some (.new (cutD xs lo hi))
  | .tuple xs => some (.dat (.tuple (cutD xs lo hi)))
  | _ => none
def bnd (i : Int) : Bool := decide (-(2 ^ 62) ≤ i) && decide (i < 2 ^ 62)
def rng1 (n : Nat) : List D := (List.range n).map fun (i : Nat) => PyData.int (i : Int)
def rng2 (lo : Int) (n : Nat) : List D := (List.range n).map fun (i : Nat) => PyData.int (lo + (i : Int))
def rngM (lo : Int) (n : Nat) : List D := (List.range n).map fun (i : Nat) => PyData.int (lo - (i : Int))

/-! ### slots -/
def getS (env : NEnv) (i : Nat) : Sl := (env[i]?).getD .un
def evB (ev : NEnv → Option (RV × NEnv)) (e : E) (env : NEnv) : Option (BV × NEnv) := match e with
  | .var i => match getS env i with
    | .im d => some (.val d, env)
    | .mu _ => some (.slot i, env)
    | .pm _ => some (.slot i, env)
    | .bo _ => some (.slot i, env)
    | .un => none
  | _ => match ev env with
    | some (r, env') => some (.val r.d, env')
    | none => none
def resB (env : NEnv) : BV → Option D
  | .val d => some d
  | .slot i => slD (getS env i)
def evVar (i : Nat) (env : NEnv) : Option (RV × NEnv) := match getS env i with
  | .im d => some (.dat d, env)
  | .mu ds => some (.dat (.list ds), env.set i (.im (.list ds)))
  | _ => none
def okSt : Sl → Bool
  | .un => true
  | .im _ => true
  | .mu _ => true
  | _ => false
def asgN (i : Nat) (d : D) (env : NEnv) : Option NEnv := if i < env.length && okSt (getS env i) then some (env.set i (.im d)) else none
def asgs : List Nat → List D → NEnv → Option NEnv
  | [], [], env => some env
  | i :: is, d :: ds, env => match asgN i d env with
    | some env' => asgs is ds env'
    | none => none
  | _, _, _ => none
def asgT (tg : Tg) (d : D) (env : NEnv) : Option NEnv := match tg with
  | .name i => asgN i d env
  | .tup is => match d with
    | .tuple ds => asgs is ds env
    | _ => none
def asgR (tg : Tg) (r : RV) (env : NEnv) : Option NEnv := match tg, r with
  | .name i, .new ds => if i < env.length && okSt (getS env i) then some (env.set i (.mu ds)) else none
  | _, _ => asgT tg r.d env
def wipeE (env : NEnv) : List Nat → NEnv
  | [] => env
  | v :: vs => (wipeE env vs).set v .un
/-- the slots vs of env as in old -/
def backE (old env : NEnv) : List Nat → NEnv
  | [] => env
  | v :: vs => (backE old env vs).set v (getS old v)
/-- lock the walked slot -/
def lockE (b : Option Nat) (env : NEnv) : NEnv := match b with
  | none => env
  | some i => match getS env i with
    | .mu ds => env.set i (.bo ds)
    | .pm ds => env.set i (.bo ds)
    | _ => env
def openE (b : Option Nat) (old env : NEnv) : NEnv := match b with
  | none => env
  | some i => env.set i (getS old i)

def cellD : Sl → Option (List D)
  | .mu ds => some ds
  | .pm ds => some ds
  | .bo ds => some ds
  | _ => none
def noC (own : List Nat) (env : NEnv) : Bool := own.all fun i => (cellD (getS env i)).isNone
def okW (b : Option Nat) (own : List Nat) : Bool := match b with
  | none => true
  | some j => !own.contains j
def lcLoop (turn : D → NEnv → Option (List D × NEnv)) : List D → NEnv → Option (List D × NEnv)
  | [], env => some ([], env)
  | d :: ds, env => match turn d env with
    | some (xs, e1) => match lcLoop turn ds e1 with
      | some (ys, e2) => some (xs ++ ys, e2)
      | none => none
    | none => none
def forLoop (body : D → NEnv → Option Out) : List D → NEnv → Option Out
  | [], env => some (.nx env)
  | d :: ds, env => match body d env with
    | some (.nx e) => forLoop body ds e
    | some (.ct e) => forLoop body ds e
    | some (.bk e) => some (.nx e)
    | some (.rt r e) => some (.rt r e)
    | none => none
def whLoop (c : NEnv → Option (Bool × NEnv)) (body : NEnv → Option Out) : Nat → NEnv → Option Out
  | 0, _ => none
  | n + 1, env => match c env with
    | some (true, e1) => match body e1 with
      | some (.nx e) => whLoop c body n e
      | some (.ct e) => whLoop c body n e
      | some (.bk e) => some (.nx e)
      | some (.rt r e) => some (.rt r e)
      | none => none
    | some (false, e1) => some (.nx e1)
    | none => none
def tst (ev : NEnv → Option (RV × NEnv)) (env : NEnv) : Option (Bool × NEnv) := match ev env with
  | some (.dat (.bool b), e1) => some (b, e1)
  | _ => none
def evI (ev : NEnv → Option (RV × NEnv)) (env : NEnv) : Option (Int × NEnv) := match ev env with
  | some (.dat (.int i), e1) => some (i, e1)
  | _ => none
def andE (a b : NEnv → Option (RV × NEnv)) (env : NEnv) : Option (RV × NEnv) := match tst a env with
  | some (true, e1) => match tst b e1 with
    | some (k, e2) => some (.dat (.bool k), e2)
    | none => none
  | some (false, e1) => some (.dat (.bool false), e1)
  | none => none
def orE (a b : NEnv → Option (RV × NEnv)) (env : NEnv) : Option (RV × NEnv) := match tst a env with
  | some (true, e1) => some (.dat (.bool true), e1)
  | some (false, e1) => match tst b e1 with
    | some (k, e2) => some (.dat (.bool k), e2)
    | none => none
  | none => none

def evAV (m : Bool) (e : E) (ev : NEnv → Option (RV × NEnv)) (env : NEnv) : Option (AV × NEnv) := match e with
  | .var i => match getS env i with
    | .im d => if m then none else some (AV.im d, env)
    | .mu _ => some (if m then AV.cell i else AV.bor i, env)
    | .pm _ => some (if m then AV.cell i else AV.bor i, env)
    | .bo _ => if m then none else some (AV.bor i, env)
    | .un => none
  | _ => if m then none else match ev env with
    | some (r, e1) => some (AV.im r.d, e1)
    | none => none
/-! ### calls -/
def cargs (env : NEnv) : List AV → Option (List CArg)
  | [] => some []
  | .im d :: r => (cargs env r).map (.im d :: ·)
  | .bor i :: r => match slD (getS env i) with
    | some (.list ds) => (cargs env r).map (.im (.list ds) :: ·)
    | _ => none
  | .cell i :: r => match getS env i with
    | .mu ds => (cargs env r).map (.cell ds :: ·)
    | .pm ds => (cargs env r).map (.cell ds :: ·)
    | _ => none
def cellsA : List AV → List Nat
  | [] => []
  | .cell i :: r => i :: cellsA r
  | _ :: r => cellsA r
def borsA : List AV → List Nat
  | [] => []
  | .bor i :: r => i :: borsA r
  | _ :: r => borsA r
def setC (env : NEnv) (i : Nat) (ds : List D) : NEnv := match getS env i with
  | .mu _ => env.set i (.mu ds)
  | .pm _ => env.set i (.pm ds)
  | _ => env
def setCs (env : NEnv) : List Nat → List (List D) → Option NEnv
  | [], [] => some env
  | i :: is, ds :: r => setCs (setC env i ds) is r
  | _, _ => none
def frz (env : NEnv) : List Nat → Option NEnv
  | [] => some env
  | i :: is => match getS env i with
    | .mu ds => frz (env.set i (.im (.list ds))) is
    | .im _ => frz env is
    | _ => none
def nodupB : List Nat → Bool
  | [] => true
  | i :: r => !r.contains i && nodupB r
def callE (run : List CArg → Option (RV × List (List D))) (as : List AV) (env : NEnv) : Option (RV × NEnv) :=
  if nodupB (cellsA as) && (borsA as).all fun i => !(cellsA as).contains i then
    match cargs env as with
    | some cs => match borsA as with
      | [] => match run cs with
        | some (r, outs) => (setCs env (cellsA as) outs).map fun e => (r, e)
        | none => none
      | _ :: _ => match run cs with
        | some (r, outs) => if r.flat && outs.all fun ds => ds.all flat then (setCs env (cellsA as) outs).map fun e => (r, e)
          else match frz env (borsA as) with
            | some e1 => (setCs e1 (cellsA as) outs).map fun e => (r, e)
            | none => none
        | none => none
    | none => none
  else none
def opB (o : Op) (env : NEnv) (x y : BV) : Option (RV × NEnv) := match resB env x, resB env y with
  | some dx, some dy => (op2 o dx dy).map fun r => (r, env)
  | _, _ => none

/-! ### evaluation -/
mutual
def evalE (cl : CL) : E → NEnv → Option (RV × NEnv)
  | .var i, env => evVar i env
  | .cN, env => some (.dat .none, env)
  | .cB b, env => some (.dat (.bool b), env)
  | .cI i, env => some (.dat (.int i), env)
  | .cS s, env => if s.length ≤ 16777216 && PyData.strOk s then some (.dat (.str s), env) else none
  | .bin o a b, env => match evB (evalE cl a) a env with
    | some (x, e1) => match evB (evalE cl b) b e1 with
      | some (y, e2) => opB o e2 x y
      | none => none
    | none => none
  | .chain o o' a b c, env => match evB (evalE cl a) a env with
    | some (x, e1) => match evB (evalE cl b) b e1 with
      | some (y, e2) => match opB o e2 x y with
        | some (.dat (.bool true), e3) => match evB (evalE cl c) c e3 with
          | some (z, e4) => match opB o' e4 y z with
            | some (.dat (.bool k), e5) => some (.dat (.bool k), e5)
            | _ => none
          | none => none
        | some (.dat (.bool false), e3) => some (.dat (.bool false), e3)
        | _ => none
      | none => none
    | none => none
  | .neg a, env => match evI (evalE cl a) env with
    | some (i, e1) => some (.dat (.int (-i)), e1)
    | none => none
  | .not a, env => match tst (evalE cl a) env with
    | some (b, e1) => some (.dat (.bool (!b)), e1)
    | none => none
  | .and a b, env => andE (evalE cl a) (evalE cl b) env
  | .or a b, env => orE (evalE cl a) (evalE cl b) env
  | .ite c a b, env => match tst (evalE cl c) env with
    | some (true, e1) => evalE cl a e1
    | some (false, e1) => evalE cl b e1
    | none => none
  | .tup es, env => match evalEs cl es env with
    | some (ds, e1) => if ds.length ≤ 16777216 then some (.dat (.tuple ds), e1) else none
    | none => none
  | .lst es, env => match evalEs cl es env with
    | some (ds, e1) => if ds.length ≤ 16777216 then some (.new ds, e1) else none
    | none => none
  | .sli a lo hi, env => match evB (evalE cl a) a env with
    | some (x, e1) => match evalO cl lo e1 with
      | some (l, e2) => match evalO cl hi e2 with
        | some (h, e3) => match resB e3 x with
          | some d => (sliD d l h).map fun r => (r, e3)
          | none => none
        | none => none
      | none => none
    | none => none
  | .call f es, env => match evalA cl (cl.md f) es env with
    | some (as, e1) => callE (cl.run f) as e1
    | none => none
  | .bi b (.cons a .nil), env => match evB (evalE cl a) a env with
    | some (x, e1) => match resB e1 x with
      | some d => (bi1 b d).map fun r => (r, e1)
      | none => none
    | none => none
  | .bi b (.cons a (.cons c .nil)), env => match evB (evalE cl a) a env with
    | some (x, e1) => match evB (evalE cl c) c e1 with
      | some (y, e2) => match resB e2 x, resB e2 y with
        | some d, some d' => (bi2 b d d').map fun r => (r, e2)
        | _, _ => none
      | none => none
    | none => none
  | .bi _ _, _ => none
  | .birng b it, env => match evalIt cl it env with
    | some (ds, _, e1) => if ds.length ≤ 16777216 then (biR b ds).map fun r => (r, e1) else none
    | none => none
  | .pop i, env => match getS env i with
    | .mu ds => match ds.getLast? with
      | some d => some (.dat d, env.set i (.mu ds.dropLast))
      | none => none
    | .pm ds => match ds.getLast? with
      | some d => some (.dat d, env.set i (.pm ds.dropLast))
      | none => none
    | _ => none
  | .isi a t, env => match evB (evalE cl a) a env with
    | some (x, e1) => match resB e1 x with
      | some d => (tyOk t d).map fun b => (.dat (.bool b), e1)
      | none => none
    | none => none
  | .comp elt tg it c own, env => match evalIt cl it env with
    | some (ds, b, e1) => if okW b own && noC own e1 then match lcLoop (fun d e => if noC own e then match asgT tg d (wipeE e own) with
        | some e2 => match evalC cl c e2 with
          | some (true, e3) => match evalE cl elt e3 with
            | some (r, e4) => some ([r.d], e4)
            | none => none
          | some (false, e3) => some ([], e3)
          | none => none
        | none => none else none) ds (lockE b e1) with
      | some (rs, e2) => if decide (rs.length ≤ 16777216) && noC own e2 then some (.new rs, openE b e1 (backE e1 e2 own)) else none
      | none => none
      else none
    | none => none
  | .comp2 elt tg it c tg2 it2 c2 own own2, env => match evalIt cl it env with
    | some (ds, b, e1) => match lcLoop (fun d e => match asgT tg d (wipeE e own) with
        | some e2 => match evalC cl c e2 with
          | some (true, e3) => match evalIt cl it2 e3 with
            | some (ds2, b2, e4) => match lcLoop (fun d e => match asgT tg2 d (wipeE e own2) with
                | some e5 => match evalC cl c2 e5 with
                  | some (true, e6) => match evalE cl elt e6 with
                    | some (r, e7) => some ([r.d], e7)
                    | none => none
                  | some (false, e6) => some ([], e6)
                  | none => none
                | none => none) ds2 (lockE b2 e4) with
              | some (rs, e8) => some (rs, openE b2 e4 e8)
              | none => none
            | none => none
          | some (false, e3) => some ([], e3)
          | none => none
        | none => none) ds (lockE b (wipeE e1 own)) with
      | some (rs, e2) => if rs.length ≤ 16777216 then some (.new rs, openE b e1 (backE e1 e2 own)) else none
      | none => none
    | none => none
  | .sset a, env => match evB (evalE cl a) a env with
    | some (x, e1) => match resB e1 x with
      | some d => (ssetD d).map fun r => (r, e1)
      | none => none
    | none => none
def evalEs (cl : CL) : Es → NEnv → Option (List D × NEnv)
  | .nil, env => some ([], env)
  | .cons e es, env => match evalE cl e env with
    | some (r, e1) => match evalEs cl es e1 with
      | some (ds, e2) => some (r.d :: ds, e2)
      | none => none
    | none => none
def evalO (cl : CL) : Oe → NEnv → Option (Option Int × NEnv)
  | .none, env => some (none, env)
  | .some e, env => match evI (evalE cl e) env with
    | some (i, e1) => some (some i, e1)
    | none => none
def evalC (cl : CL) : Oe → NEnv → Option (Bool × NEnv)
  | .none, env => some (true, env)
  | .some e, env => tst (evalE cl e) env
def evalA (cl : CL) : List Bool → Es → NEnv → Option (List AV × NEnv)
  | [], .nil, env => some ([], env)
  | m :: ms, .cons e es, env => match evAV m e (evalE cl e) env with
    | some (a, e1) => match evalA cl ms es e1 with
      | some (as, e2) => some (a :: as, e2)
      | none => none
    | none => none
  | _, _, _ => none
def evalIt (cl : CL) : It → NEnv → Option (List D × Option Nat × NEnv)
  | .e a, env => match evB (evalE cl a) a env with
    | some (.val (.list ds), e1) => some (ds, none, e1)
    | some (.val (.tuple ds), e1) => some (ds, none, e1)
    | some (.slot i, e1) => match getS e1 i with
      | .mu ds => some (ds, some i, e1)
      | .pm ds => some (ds, some i, e1)
      | .bo ds => some (ds, some i, e1)
      | _ => none
    | _ => none
  | .r1 a, env => match evI (evalE cl a) env with
    | some (n, e1) => if bnd n then some (rng1 n.toNat, none, e1) else none
    | none => none
  | .r2 a b, env => match evI (evalE cl a) env with
    | some (lo, e1) => match evI (evalE cl b) e1 with
      | some (hi, e2) => if bnd lo && bnd hi then some (rng2 lo (hi - lo).toNat, none, e2) else none
      | none => none
    | none => none
  | .r3 a b c, env => match evI (evalE cl a) env with
    | some (lo, e1) => match evI (evalE cl b) e1 with
      | some (hi, e2) => match evI (evalE cl c) e2 with
        | some (st, e3) => if bnd lo && bnd hi && decide (st = -1) then some (rngM lo (lo - hi).toNat, none, e3) else none
        | none => none
      | none => none
    | none => none
end

def seqO (a : Option Out) (k : NEnv → Option Out) : Option Out := match a with
  | some (.nx e) => k e
  | some o => some o
  | none => none
def setAt (i : Nat) (j : Int) (d : D) (env : NEnv) : Option NEnv := match getS env i with
  | .mu ds => match ixn ds.length j with
    | some n => some (env.set i (.mu (ds.set n d)))
    | none => none
  | .pm ds => match ixn ds.length j with
    | some n => some (env.set i (.pm (ds.set n d)))
    | none => none
  | _ => none
def appAt (i : Nat) (d : D) (env : NEnv) : Option NEnv := match getS env i with
  | .mu ds => if ds.length < 16777216 then some (env.set i (.mu (ds ++ [d]))) else none
  | .pm ds => if ds.length < 16777216 then some (env.set i (.pm (ds ++ [d]))) else none
  | _ => none
def revAt (i : Nat) (env : NEnv) : Option NEnv := match getS env i with
  | .mu ds => some (env.set i (.mu ds.reverse))
  | .pm ds => some (env.set i (.pm ds.reverse))
  | _ => none
def augD (o : Op) (x y : D) : Option D := match o with
  | .add => match x, y with
    | .int a, .int b => some (.int (a + b))
    | .tuple xs, .tuple ys => if xs.length + ys.length ≤ 16777216 then some (.tuple (xs ++ ys)) else none
    | .str a, .str b => if a.length + b.length ≤ 16777216 then some (.str (a ++ b)) else none
    | _, _ => none
  | .sub => match x, y with
    | .int a, .int b => some (.int (a - b))
    | _, _ => none
  | .mul => match x, y with
    | .int a, .int b => if mulOk a b then some (.int (a * b)) else none
    | _, _ => none
  | _ => none
def augAt (i : Nat) (o : Op) (d : D) (env : NEnv) : Option NEnv := match getS env i with
  | .im x => match augD o x d with
    | some z => some (env.set i (.im z))
    | none => none
  | .mu ds => match o with
    | .add => match d with
      | .list ys => if ds.length + ys.length ≤ 16777216 then some (env.set i (.mu (ds ++ ys))) else none
      | _ => none
    | _ => none
  | _ => none
def nxO (e : Option NEnv) : Option Out := match e with
  | some e => some (.nx e)
  | none => none
def openO (b : Option Nat) (old : NEnv) : Option Out → Option Out
  | some (.nx e) => some (.nx (openE b old e))
  | some (.bk e) => some (.bk (openE b old e))
  | some (.ct e) => some (.ct (openE b old e))
  | some (.rt r e) => some (.rt r (openE b old e))
  | none => none
def retE (ev : NEnv → Option (RV × NEnv)) (e : E) (env : NEnv) : Option Out := match e with
  | .var i => match getS env i with
    | .im d => some (.rt (.dat d) env)
    | .mu ds => some (.rt (.new ds) (env.set i .un))
    | _ => none
  | _ => match ev env with
    | some (r, e1) => some (.rt r e1)
    | none => none

mutual
def evalS (cl : CL) (wf : Nat) : S → NEnv → Option Out
  | .asg tg e, env => match evalE cl e env with
    | some (r, e1) => nxO (asgR tg r e1)
    | none => none
  | .aug i o e, env => if (slD (getS env i)).isSome then match evalE cl e env with
    | some (r, e1) => nxO (augAt i o r.d e1)
    | none => none else none
  | .seti i ix e, env => match evalE cl e env with
    | some (r, e1) => if (cellD (getS e1 i)).isSome then match evI (evalE cl ix) e1 with
      | some (j, e2) => nxO (setAt i j r.d e2)
      | none => none else none
    | none => none
  | .app i e, env => if (cellD (getS env i)).isSome then match evalE cl e env with
    | some (r, e1) => nxO (appAt i r.d e1)
    | none => none else none
  | .rev i, env => nxO (revAt i env)
  | .expr e, env => match evalE cl e env with
    | some (_, e1) => some (.nx e1)
    | none => none
  | .ret e, env => retE (evalE cl e) e env
  | .retN, env => some (.rt (.dat .none) env)
  | .iff c a b, env => match tst (evalE cl c) env with
    | some (true, e1) => evalSs cl wf a e1
    | some (false, e1) => evalSs cl wf b e1
    | none => none
  | .for tg it body, env => match evalIt cl it env with
    | some (ds, b, e1) => openO b e1 (forLoop (fun d e => match asgT tg d e with
        | some e2 => evalSs cl wf body e2
        | none => none) ds (lockE b e1))
    | none => none
  | .while c body, env => whLoop (tst (evalE cl c)) (evalSs cl wf body) wf env
  | .brk, env => some (.bk env)
  | .cont, env => some (.ct env)
  | .pass, env => some (.nx env)
def evalSs (cl : CL) (wf : Nat) : Ss → NEnv → Option Out
  | .nil, env => some (.nx env)
  | .cons s ss, env => seqO (evalS cl wf s env) (evalSs cl wf ss)
end

structure Df where
  ns : Nat
  md : List Bool
  body : Ss
def parS : CArg → Sl
  | .im d => .im d
  | .cell ds => .pm ds
def startE (ns : Nat) (as : List CArg) : NEnv := as.map parS ++ List.replicate (ns - as.length) .un
def argOk : List Bool → List CArg → Bool
  | [], [] => true
  | false :: ms, .im _ :: as => argOk ms as
  | true :: ms, .cell _ :: as => argOk ms as
  | _, _ => false
def outsE (env : NEnv) : List Bool → Nat → Option (List (List D))
  | [], _ => some []
  | false :: ms, i => outsE env ms (i + 1)
  | true :: ms, i => match getS env i with
    | .pm ds => (outsE env ms (i + 1)).map (ds :: ·)
    | _ => none
def endD (md : List Bool) : Option Out → Option (RV × List (List D))
  | some (.rt r e) => (outsE e md 0).map fun o => (r, o)
  | some (.nx e) => (outsE e md 0).map fun o => (.dat .none, o)
  | _ => none
def runD (cl : CL) (wf : Nat) (d : Df) (as : List CArg) : Option (RV × List (List D)) :=
  if argOk d.md as then endD d.md (evalSs cl wf d.body (startE d.ns as)) else none
abbrev Tab := Nat → Option Df
def mdT (T : Tab) (f : Nat) : List Bool := match T f with
  | some d => d.md
  | none => []
def callAt (T : Tab) (wf : Nat) : Nat → Nat → List CArg → Option (RV × List (List D))
  | 0, _, _ => none
  | k + 1, f, as => match T f with
    | some d => runD ⟨mdT T, callAt T wf k⟩ wf d as
    | none => none
def clAt (T : Tab) (wf k : Nat) : CL := ⟨mdT T, callAt T wf k⟩
end NG

/-! NG1: the model's trees read into the small language. -/
namespace NG
open PySem L2

structure SE where
  N : List Str
  fns : List (Str × Nat)
def ixOf (x : Str) : List Str → Nat → Option Nat
  | [], _ => none
  | y :: ys, i => if y = x then some i else ixOf x ys (i + 1)
def vis (sc : Scope) (x : Str) : Bool := match sc.names.lookup x with
  | some .local => true
  | some .cell => true
  | some .free => true
  | _ => false
def locN (sc : Scope) (fn : Str → Bool) (x : Str) : Bool := match sc.names.lookup x with
  | some .local => true
  | some .cell => fn x
  | _ => false
def gl (sc : Scope) (x : Str) : Bool := match sc.names.lookup x with
  | some .globalImplicit => true
  | _ => false
def plainName (x : Str) : Bool := !(x == ("__debug__" : Str)) && !(x == ("__classdict__" : Str))
def slotN (g : SE) (sc : Scope) (x : Str) : Option Nat := if plainName x && vis sc x then ixOf x g.N 0 else none
def slotT (g : SE) (sc : Scope) (fn : Str → Bool) (x : Str) : Option Nat := if locN sc fn x then ixOf x g.N 0 else none
def opOf : Operator → Option Op
  | .Add => some .add
  | .Sub => some .sub
  | .Mult => some .mul
  | .Mod => some .mod
  | .FloorDiv => some .fdiv
  | .Pow => some .pow
  | _ => none
def cmpOf : CmpOp → Op
  | .Eq => .eq
  | .NotEq => .ne
  | .Lt => .lt
  | .LtE => .le
  | .Gt => .gt
  | .GtE => .ge
  | .Is => .isN
  | .IsNot => .isnt
  | .In => .inn
  | .NotIn => .notin
def biTab : List (Str × Bi) := [("len", .len), ("sum", .sum), ("all", .all), ("any", .any), ("min", .min), ("max", .max), ("abs", .abs), ("int", .int), ("tuple", .tuple), ("list", .list), ("sorted", .sorted), ("str", .str)]
def biOf (x : Str) : Option Bi := biTab.lookup x
def tyTab : List (Str × Ty) := [("bool", .bool), ("int", .int), ("str", .str), ("tuple", .tuple), ("list", .list)]
def tyOf (x : Str) : Option Ty := tyTab.lookup x
def blkOwn (N : List Str) : List (Str × NameKind) → List (Str × Nat)
  | [] => []
  | (n, k) :: r => match k, ixOf n N 0 with
    | .local, some i => (n, i) :: blkOwn N r
    | .cell, some i => (n, i) :: blkOwn N r
    | _, _ => blkOwn N r
def fnOf' (scope : Scope) : Str → Bool := fun x => scope.names.lookup x == some .cell

def tgIn (own : List Nat) : Tg → Bool
  | .name i => own.contains i
  | .tup is => is.all own.contains
def consE (e : Option E) (es : Option Es) : Option Es := match e, es with
  | some e, some es => some (.cons e es)
  | _, _ => none

def tgNs (g : SE) (sc : Scope) (fn : Str → Bool) : List Expr → Option (List Nat)
  | [] => some []
  | .Name x _ :: r => match slotT g sc fn x, tgNs g sc fn r with
    | some i, some is => some (i :: is)
    | _, _ => none
  | _ => none
def cTg (g : SE) (sc : Scope) (fn : Str → Bool) : Expr → Option Tg
  | .Name x _ => (slotT g sc fn x).map .name
  | .Tuple es _ _ => (tgNs g sc fn es).map .tup
  | _ => none

/-- the argument of set(..) -/
def setArg : Expr → Option Expr
  | .Call f as ks _ => match f, as, ks with
    | .Name x _, [a], [] => if x = "set" then some a else none
    | _, _, _ => none
  | _ => none
/-- the arguments of range(..) -/
def rgOf : Expr → Option (List Expr)
  | .Call (.Name x _) as [] _ => if x = "range" then some as else none
  | _ => none
mutual
def cE (g : SE) : Nat → Scope → Expr → Option E
  | 0, _, _ => none
  | n + 1, sc, e => match e with
    | .Name x _ => (slotN g sc x).map E.var
    | .Constant c _ _ => match c with
      | .none => some .cN
      | .bool b => some (.cB b)
      | .int i => some (.cI i)
      | .str s => some (.cS s)
      | _ => none
    | .BinOp a o b _ => match opOf o, cE g n sc a, cE g n sc b with
      | some o, some a, some b => some (.bin o a b)
      | _, _, _ => none
    | .UnaryOp u a _ => match u with
      | .USub => (cE g n sc a).map E.neg
      | .Not => (cE g n sc a).map E.not
      | _ => none
    | .BoolOp u vs p => match vs with
      | [] => none
      | [a] => cE g n sc a
      | a :: b :: r => match cE g n sc a, cE g n sc (.BoolOp u (b :: r) p) with
        | some a, some b => match u with
          | .And => some (.and a b)
          | .Or => some (.or a b)
        | _, _ => none
    | .Compare a os bs _ => match os, bs with
      | [o], [b] => match cE g n sc a, cE g n sc b with
        | some a, some b => some (.bin (cmpOf o) a b)
        | _, _ => none
      | [o, o'], [b, c] => match cE g n sc a, cE g n sc b, cE g n sc c with
        | some a, some b, some c => some (.chain (cmpOf o) (cmpOf o') a b c)
        | _, _, _ => none
      | _, _ => none
    | .IfExp c a b _ => match cE g n sc c, cE g n sc a, cE g n sc b with
      | some c, some a, some b => some (.ite c a b)
      | _, _, _ => none
    | .Tuple es _ _ => (cEs g n sc es).map E.tup
    | .List es _ => (cEs g n sc es).map E.lst
    | .Subscript a i _ => match i with
      | .Slice lo hi st _ => match st with
        | none => match cE g n sc a, cO g n sc lo, cO g n sc hi with
          | some a, some lo, some hi => some (.sli a lo hi)
          | _, _, _ => none
        | some _ => none
      | i => match cE g n sc a, cE g n sc i with
        | some a, some i => some (.bin .idx a i)
        | _, _ => none
    | .Call f as ks p => match ks with
      | [] => match f with
        | .Name x _ => if gl sc x then cCall g n sc x as else none
        | .Attribute o m ap => match o, as with
          | .Name x _, [] => if m = "pop" ∧ ap.endLine == p.line then (slotN g sc x).map E.pop else none
          | _, _ => none
        | _ => none
      | _ :: _ => none
    | .ListComp elt gens scope _ => match gens with
      | [⟨tg, it, ifs, 0⟩] => if blkC g.N sc scope (blkOwn g.N scope.names) then
          match cIt g n sc it, cTg g (relS scope sc) (fnOf' scope) tg, cIf g n (relS scope sc) ifs, cE g n (relS scope sc) elt with
          | some it, some tg, some c, some elt => if tgIn ((blkOwn g.N scope.names).map (·.2)) tg then some (.comp elt tg it c ((blkOwn g.N scope.names).map (·.2))) else none
          | _, _, _, _ => none
        else none
      | _ => none
    | _ => none
def cCall (g : SE) : Nat → Scope → Str → List Expr → Option E
  | 0, _, _, _ => none
  | n + 1, sc, x, as => match g.fns.lookup x with
    | some id => (cEs g n sc as).map (E.call id)
    | none => if x = "isinstance" then (match as with
        | [a, .Name y _] => if gl sc y then (match cE g n sc a, tyOf y with
          | some a, some t => some (.isi a t)
          | _, _ => none) else none
        | _ => none)
      else match biOf x with
        | none => none
        | some b => match as with
          | [a] => match (if b = .sorted ∧ gl sc "set" = true then setArg a else none) with
            | some a2 => (cE g n sc a2).map .sset
            | none => match rgOf a with
            | some bs => if (b = .tuple ∨ b = .list) ∧ gl sc "range" then (match bs with
                | [a] => (cE g n sc a).map fun a => .birng b (.r1 a)
                | [a, a2] => match cE g n sc a, cE g n sc a2 with
                  | some a, some a2 => some (.birng b (.r2 a a2))
                  | _, _ => none
                | _ => none) else none
            | none => (cE g n sc a).map fun a => .bi b (.cons a .nil)
          | [a, c] => match cE g n sc a, cE g n sc c with
            | some a, some c => some (.bi b (.cons a (.cons c .nil)))
            | _, _ => none
          | _ => none
def cEs (g : SE) : Nat → Scope → List Expr → Option Es
  | 0, _, _ => none
  | n + 1, sc, es => match es with
    | [] => some .nil
    | e :: es => consE (cE g n sc e) (cEs g n sc es)
def cO (g : SE) : Nat → Scope → Option Expr → Option Oe
  | 0, _, _ => none
  | n + 1, sc, o => match o with
    | none => some .none
    | some e => (cE g n sc e).map .some
def cIf (g : SE) : Nat → Scope → List Expr → Option Oe
  | 0, _, _ => none
  | n + 1, sc, es => match es with
    | [] => some .none
    | [e] => (cE g n sc e).map .some
    | _ => none
def cIt (g : SE) : Nat → Scope → Expr → Option It
  | 0, _, _ => none
  | n + 1, sc, e => match rgOf e with
    | none => (cE g n sc e).map .e
    | some as => if gl sc "range" then (match as with
      | [a] => (cE g n sc a).map .r1
      | [a, b] => match cE g n sc a, cE g n sc b with
        | some a, some b => some (.r2 a b)
        | _, _ => none
      | [a, b, c] => match cE g n sc a, cE g n sc b, cE g n sc c with
        | some a, some b, some c => some (.r3 a b c)
        | _, _, _ => none
      | _ => none) else none
end

def isLC : Expr → Bool
  | .ListComp .. => true
  | .SetComp .. => true
  | .DictComp .. => true
  | _ => false
def isTup : Expr → Bool
  | .Tuple .. => true
  | _ => false
/-- how a comprehension's value is stored -/
def lcSwap (sc : Scope) (y : Str) (py : Pos) : Expr → Bool
  | .ListComp _ _ scope pos => sc.names.lookup y == some .local && py.line == pos.line && !(scope.names.any fun (n, k) => n == y && (k == .local || k == .cell))
  | _ => false
def foldAll (vs : List Expr) : Bool := vs.all (foldedForSure 8)
def conAll (vs : List Expr) : Bool := vs.all (constantsAlone 8)
def pair2 (sc : Scope) (ts vs : List Expr) : Bool := match ts, vs with
  | [.Name x px, .Name y py], [_, _] => sc.names.lookup x == some .local && sc.names.lookup y == some .local && py.line == px.line && !(x == y) && !foldAll vs && !conAll vs
  | _, _ => false
/-- x.m(..) in one line -/
def methOf : Expr → Option (Str × Str × List Expr)
  | .Call f as ks cp => match f, ks with
    | .Attribute o m ap, [] => match o with
      | .Name x _ => if ap.endLine == cp.line then some (x, m, as) else none
      | _ => none
    | _, _ => none
  | _ => none
def one? {α : Type} : List α → Option α
  | [a] => some a
  | _ => none

mutual
def cS (g : SE) : Nat → Scope → Stmt → Option S
  | 0, _, _ => none
  | n + 1, sc, st => match st with
    | .Assign ts e q => match ts with
      | [t] => match t with
        | .Name x p => match slotT g sc (fun _ => true) x, cE g n sc e with
          | some i, some e' => some (.asg (.name i) e')
          | _, _ => none
        | .Tuple ts k p => match tgNs g sc (fun _ => true) ts, cE g n sc e with
          | some is, some e' => match e with
            | .Tuple vs _ _ => if pair2 sc ts vs then some (.asg (.tup is) e') else none
            | _ => some (.asg (.tup is) e')
          | _, _ => none
        | .Subscript o i p => match o with
          | .Name x _ => match slotN g sc x, cE g n sc i, cE g n sc e with
            | some s, some i, some e => some (.seti s i e)
            | _, _, _ => none
          | _ => none
        | _ => none
      | _ => none
    | .AugAssign t o e p => match t with
      | .Name x _ => match slotT g sc (fun _ => true) x, opOf o, cE g n sc e with
        | some i, some o, some e => some (.aug i o e)
        | _, _, _ => none
      | _ => none
    | .Expr e p => match methOf e with
      | some (x, m, as) => if m = "append" then (match one? as with
          | some a => match slotN g sc x, cE g n sc a with
            | some i, some a => some (.app i a)
            | _, _ => none
          | none => none)
        else if m = "reverse" then (match as with
          | [] => (slotN g sc x).map .rev
          | _ => none)
        else (cE g n sc e).map .expr
      | none => if isLC e then none else (cE g n sc e).map .expr
    | .Return v p => match v with
      | none => some .retN
      | some e => (cE g n sc e).map .ret
    | .If c a b p => match cE g n sc c, cSs g n sc a, cSs g n sc b with
      | some c, some a, some b => some (.iff c a b)
      | _, _, _ => none
    | .For tg it body el p => match el with
      | [] => match cTg g sc (fun _ => true) tg, cIt g n sc it, cSs g n sc body with
        | some tg, some it, some b => some (.for tg it b)
        | _, _, _ => none
      | _ => none
    | .While c body el p => match el with
      | [] => match cE g n sc c, cSs g n sc body with
        | some c, some b => some (.while c b)
        | _, _ => none
      | _ => none
    | .Break p => some .brk
    | .Continue p => some .cont
    | .Pass p => some .pass
    | _ => none
def cSs (g : SE) : Nat → Scope → List Stmt → Option Ss
  | 0, _, _ => none
  | n + 1, sc, ss => match ss with
    | [] => some .nil
    | s :: ss => match cS g n sc s, cSs g n sc ss with
      | some s, some ss => some (.cons s ss)
      | _, _ => none
end
end NG

/-! NG2: data over the abstract heap; operators and builtins on data. -/
namespace NG
open PySem L2

def Ex (H H' : Hp) : Prop := ∀ a o, H a = some o → H' a = some o
theorem Ex.refl (H : Hp) : Ex H H := fun _ _ h => h
theorem Ex.trans {H H1 H2 : Hp} (a : Ex H H1) (b : Ex H1 H2) : Ex H H2 := fun x o h => b x o (a x o h)
theorem Ex.new {H : Hp} {p : Addr} {o : HO} (h : H p = none) : Ex H (upd H p o) := fun a u e => by
  rw [upd_ne (ne_of_none e h)]; exact e
theorem Ex.back {H H' : Hp} {p : Addr} (e : Ex H H') (h : H' p = none) : H p = none := by
  cases h1 : H p with
  | none => rfl
  | some o => rw [e p o h1] at h; cases h
theorem Ex.rd {H H' : Hp} {a : Addr} {u : HO} (e : Ex H H') (h : Rd H a u) : Rd H' a u := by
  rcases h with h | ⟨o, h⟩
  · exact .inl (e a _ h)
  · exact .inr ⟨o, e a _ h⟩

mutual
inductive Rep (H : Hp) : V → PyData → Prop
  | non : Rep H .non .none
  | bl (b : Bool) : Rep H (.bl b) (.bool b)
  | int (i : Int) : Rep H (.int i) (.int i)
  | str (x : Str) (h : x.length ≤ 16777216) (o : PyData.strOk x = true) : Rep H (.str x) (.str x)
  | lst {a : Addr} {xs : List V} {ds : List PyData} : Rd H a (.lst xs) → ds.length ≤ 16777216 → Reps H xs ds → Rep H (.ref a) (.list ds)
  | tup {a : Addr} {xs : List V} {ds : List PyData} : Rd H a (.tup xs) → ds.length ≤ 16777216 → Reps H xs ds → Rep H (.ref a) (.tuple ds)
inductive Reps (H : Hp) : List V → List PyData → Prop
  | nil : Reps H [] []
  | cons {v : V} {vs : List V} {d : PyData} {ds : List PyData} : Rep H v d → Reps H vs ds → Reps H (v :: vs) (d :: ds)
end
section
variable {H H' H0 H0' : Hp}
mutual
theorem Rep.mono (e : Ex H H') : ∀ (d : PyData) (v : V), Rep H v d → Rep H' v d
  | .none, _, h => by cases h; exact .non
  | .bool b, _, h => by cases h; exact .bl b
  | .int i, _, h => by cases h; exact .int i
  | .str x, _, h => by cases h with | str _ h o => exact .str x h o
  | .list ds, _, h => by cases h with | lst s l r => exact .lst (e.rd s) l (Reps.mono e ds _ r)
  | .tuple ds, _, h => by cases h with | tup s l r => exact .tup (e.rd s) l (Reps.mono e ds _ r)
  | .dict _, _, h => by cases h
theorem Reps.mono (e : Ex H H') : ∀ (ds : List PyData) (vs : List V), Reps H vs ds → Reps H' vs ds
  | [], _, h => by cases h; exact .nil
  | d :: ds, _, h => by cases h with | cons a b => exact .cons (Rep.mono e d _ a) (Reps.mono e ds _ b)
end
mutual
theorem Rep.dp (K : PySem.W.Frag) : ∀ (d : PyData) (v : V), Rep H v d → Dp K H v d
  | .none, _, h => by cases h; exact .non
  | .bool b, _, h => by cases h; exact .bl b
  | .int i, _, h => by cases h; exact .int i
  | .str x, _, h => by cases h; exact .str x
  | .list ds, _, h => by cases h with | lst s l r => exact .lst (.inl s) (Reps.dp K ds _ r)
  | .tuple ds, _, h => by cases h with | tup s l r => exact .tup (.inl s) (Reps.dp K ds _ r)
  | .dict _, _, h => by cases h
theorem Reps.dp (K : PySem.W.Frag) : ∀ (ds : List PyData) (vs : List V), Reps H vs ds → DpAll K H vs ds
  | [], _, h => by cases h; exact .nil
  | d :: ds, _, h => by cases h with | cons a b => exact .cons (Rep.dp K d _ a) (Reps.dp K ds _ b)
end
mutual
theorem Rep.lay : ∀ (d : PyData) (v : V), Rep H v d → d.canLay0 = true
  | .none, _, h => rfl
  | .bool b, _, h => rfl
  | .int i, _, h => rfl
  | .str x, _, h => by cases h with | str _ h o => exact o
  | .list ds, _, h => by cases h with | lst s l r => exact Reps.lay ds _ r
  | .tuple ds, _, h => by cases h with | tup s l r => exact Reps.lay ds _ r
  | .dict _, _, h => by cases h
theorem Reps.lay : ∀ (ds : List PyData) (vs : List V), Reps H vs ds → PyData.canLayAll0 ds = true
  | [], _, h => rfl
  | d :: ds, _, h => by
    cases h with
    | cons a b =>
      show (PyData.canLay0 d && PyData.canLayAll0 ds) = true
      rw [Rep.lay d _ a, Reps.lay ds _ b] <;> rfl
end
theorem Reps.len : ∀ {ds : List PyData} {vs : List V}, Reps H vs ds → vs.length = ds.length
  | _, _, .nil => rfl
  | _, _, .cons _ t => by rw [List.length_cons, List.length_cons, Reps.len t]
theorem Reps.get : ∀ {ds : List PyData} {vs : List V} {i : Nat} {d : D}, Reps H vs ds → ds[i]? = some d → ∃ v, vs[i]? = some v ∧ Rep H v d
  | _, _, _, _, .nil, h => by simp at h
  | _, _, 0, _, .cons r _, h => by simp at h; subst h; exact ⟨_, rfl, r⟩
  | _, _, i + 1, _, .cons _ t, h => by
    obtain ⟨v, a, b⟩ := Reps.get (i := i) t (by simpa using h)
    exact ⟨v, by simpa using a, b⟩
theorem Reps.app : ∀ {ds es : List PyData} {vs us : List V}, Reps H vs ds → Reps H us es → Reps H (vs ++ us) (ds ++ es)
  | _, _, _, _, .nil, h => h
  | _, _, _, _, .cons r t, h => .cons r (t.app h)
theorem Reps.one {v : V} {d : D} (h : Rep H v d) : Reps H [v] [d] := .cons h .nil
theorem Reps.set {v : V} {d : D} (h : Rep H v d) : ∀ {ds : List PyData} {vs : List V} (i : Nat), Reps H vs ds → Reps H (vs.set i v) (ds.set i d)
  | _, _, _, .nil => .nil
  | _, _, 0, .cons _ t => .cons h t
  | _, _, i + 1, .cons r t => .cons r (Reps.set h i t)
theorem Reps.take : ∀ {ds : List PyData} {vs : List V} (n : Nat), Reps H vs ds → Reps H (vs.take n) (ds.take n)
  | _, _, 0, _ => .nil
  | _, _, _ + 1, .nil => .nil
  | _, _, n + 1, .cons r t => .cons r (Reps.take n t)
theorem Reps.drop : ∀ {ds : List PyData} {vs : List V} (n : Nat), Reps H vs ds → Reps H (vs.drop n) (ds.drop n)
  | _, _, 0, r => r
  | _, _, _ + 1, .nil => .nil
  | _, _, n + 1, .cons _ t => Reps.drop n t
theorem Reps.rev : ∀ {ds : List PyData} {vs : List V}, Reps H vs ds → Reps H vs.reverse ds.reverse
  | _, _, .nil => .nil
  | _, _, .cons r t => by
    rw [List.reverse_cons, List.reverse_cons]
    exact (Reps.rev t).app (.one r)
theorem Reps.dropLast {ds : List PyData} {vs : List V} (h : Reps H vs ds) : Reps H vs.dropLast ds.dropLast := by
  rw [List.dropLast_eq_take, List.dropLast_eq_take, h.len]
  exact h.take _
theorem Reps.last {ds : List PyData} {vs : List V} {d : D} (h : Reps H vs ds) (e : ds.getLast? = some d) : ∃ v, vs[vs.length - 1]? = some v ∧ Rep H v d := by
  rw [List.getLast?_eq_getElem?] at e
  obtain ⟨v, a, b⟩ := h.get e
  exact ⟨v, by rw [h.len]; exact a, b⟩
theorem Reps.ints : ∀ {ds : List PyData} {vs : List V} {ns : List Int}, Reps H vs ds → intsOf ds = some ns → vs = ns.map V.int ∧ ds = ns.map PyData.int
  | _, _, ns, .nil, h => by
    cases (show some ([] : List Int) = some ns from h)
    exact ⟨rfl, rfl⟩
  | .int i :: ds, v :: vs, ns, .cons r t, h => by
    unfold intsOf at h
    cases e : intsOf ds with
    | none => rw [e] at h; cases h
    | some ms =>
      rw [e] at h
      cases h
      obtain ⟨a, b⟩ := Reps.ints t e
      cases r
      exact ⟨by rw [List.map_cons, ← a], by rw [List.map_cons, ← b]⟩
  | .none :: _, _, _, .cons _ _, h => by unfold intsOf at h; cases h
  | .bool _ :: _, _, _, .cons _ _, h => by unfold intsOf at h; cases h
  | .str _ :: _, _, _, .cons _ _, h => by unfold intsOf at h; cases h
  | .list _ :: _, _, _, .cons _ _, h => by unfold intsOf at h; cases h
  | .tuple _ :: _, _, _, .cons _ _, h => by unfold intsOf at h; cases h
  | .dict _ :: _, _, _, .cons _ _, h => by unfold intsOf at h; cases h
theorem Reps.bls : ∀ {ds : List PyData} {vs : List V} {ns : List Bool}, Reps H vs ds → blsOf ds = some ns → vs = ns.map V.bl ∧ ds = ns.map PyData.bool
  | _, _, ns, .nil, h => by
    cases (show some ([] : List Bool) = some ns from h)
    exact ⟨rfl, rfl⟩
  | .bool i :: ds, v :: vs, ns, .cons r t, h => by
    unfold blsOf at h
    cases e : blsOf ds with
    | none => rw [e] at h; cases h
    | some ms =>
      rw [e] at h
      cases h
      obtain ⟨a, b⟩ := Reps.bls t e
      cases r
      exact ⟨by rw [List.map_cons, ← a], by rw [List.map_cons, ← b]⟩
  | .none :: _, _, _, .cons _ _, h => by unfold blsOf at h; cases h
  | .int _ :: _, _, _, .cons _ _, h => by unfold blsOf at h; cases h
  | .str _ :: _, _, _, .cons _ _, h => by unfold blsOf at h; cases h
  | .list _ :: _, _, _, .cons _ _, h => by unfold blsOf at h; cases h
  | .tuple _ :: _, _, _, .cons _ _, h => by unfold blsOf at h; cases h
  | .dict _ :: _, _, _, .cons _ _, h => by unfold blsOf at h; cases h
theorem Reps.ofInts (ns : List Int) : Reps H (ns.map V.int) (ns.map PyData.int) := by
  induction ns with
  | nil => exact .nil
  | cons n ns ih => exact .cons (.int n) ih
theorem Rep.flat {v : V} {d : D} (h : Rep H v d) (f : flat d = true) : Rep H' v d := by
  cases h with
  | non => exact .non
  | bl b => exact .bl b
  | int i => exact .int i
  | str x h o => exact .str x h o
  | lst _ _ _ => cases f
  | tup _ _ _ => cases f
theorem Reps.flat : ∀ {ds : List PyData} {vs : List V}, Reps H vs ds → ds.all NG.flat = true → Reps H' vs ds
  | _, _, .nil, _ => .nil
  | _, _, .cons r t, f => by
    rw [List.all_cons, Bool.and_eq_true] at f
    exact .cons (r.flat f.1) (t.flat f.2)

/-- a value that is used: a list may be one that changes, what is in it stands in the frozen part -/
def OpV (H0 H : Hp) (v : V) : PyData → Prop
  | .list ds => ∃ a ws, v = .ref a ∧ Rd H a (.lst ws) ∧ ds.length ≤ 16777216 ∧ Reps H0 ws ds
  | d => Rep H0 v d
theorem Rep.op {v : V} {d : D} (h : Rep H0 v d) (e : Ex H0 H) : OpV H0 H v d := by
  cases h with
  | lst s l r => exact ⟨_, _, rfl, e.rd s, l, r⟩
  | tup s l r => exact .tup s l r
  | non => exact .non
  | bl b => exact .bl b
  | int i => exact .int i
  | str x h o => exact .str x h o
theorem OpV.rep {v : V} {d : D} (h : OpV H0 H v d) (e : Ex H0 H) : Rep H v d := by
  cases d with
  | list ds =>
    obtain ⟨a, ws, rfl, s, l, r⟩ := h
    exact .lst s l (r.mono e)
  | tuple ds => exact Rep.mono e _ _ h
  | none => exact Rep.mono e _ _ h
  | bool b => exact Rep.mono e _ _ h
  | int i => exact Rep.mono e _ _ h
  | str x => exact Rep.mono e _ _ h
  | dict _ => exact Rep.mono e _ _ h
theorem OpV.mono {v : V} {d : D} (h : OpV H0 H v d) (e0 : Ex H0 H0') (e : Ex H H') : OpV H0' H' v d := by
  cases d with
  | list ds =>
    obtain ⟨a, ws, rfl, s, l, r⟩ := h
    exact ⟨a, ws, rfl, e.rd s, l, r.mono e0⟩
  | tuple ds => exact Rep.mono e0 _ _ h
  | none => exact Rep.mono e0 _ _ h
  | bool b => exact Rep.mono e0 _ _ h
  | int i => exact Rep.mono e0 _ _ h
  | str x => exact Rep.mono e0 _ _ h
  | dict _ => exact Rep.mono e0 _ _ h
theorem OpV.tup {v : V} {ds : List D} (h : OpV H0 H v (.tuple ds)) : ∃ a ws, v = .ref a ∧ Rd H0 a (.tup ws) ∧ ds.length ≤ 16777216 ∧ Reps H0 ws ds := by
  cases (show Rep H0 v (.tuple ds) from h) with
  | tup s l r => exact ⟨_, _, rfl, s, l, r⟩
theorem OpV.int {v : V} {i : Int} (h : OpV H0 H v (.int i)) : v = .int i := by cases (show Rep H0 v (.int i) from h); rfl
theorem OpV.bl {v : V} {b : Bool} (h : OpV H0 H v (.bool b)) : v = .bl b := by cases (show Rep H0 v (.bool b) from h); rfl
theorem OpV.non {v : V} (h : OpV H0 H v .none) : v = .non := by cases (show Rep H0 v .none from h); rfl
theorem OpV.str {v : V} {x : Str} (h : OpV H0 H v (.str x)) : v = .str x ∧ x.length ≤ 16777216 ∧ PyData.strOk x = true := by
  cases (show Rep H0 v (.str x) from h) with
  | str _ a b => exact ⟨rfl, a, b⟩

/-- nothing but new objects -/
structure Grow (H0 H H0' H' : Hp) : Prop where
  e0 : Ex H0 H0'
  e : Ex H H'
  sub : Ex H0' H'
  nw : ∀ b, H0' b ≠ none → H0 b ≠ none ∨ H b = none
theorem Grow.refl (h : Ex H0 H) : Grow H0 H H0 H := ⟨.refl _, .refl _, h, fun _ q => .inl q⟩
theorem Grow.tup {p : Addr} {o : HO} (h : Ex H0 H) (n : H p = none) : Grow H0 H (upd H0 p o) (upd H p o) := by
  have n0 : H0 p = none := h.back n
  refine ⟨.new n0, .new n, fun a u e => ?_, fun b q => ?_⟩
  · by_cases hb : a = p
    · subst hb
      rw [upd_same] at e ⊢
      exact e
    · rw [upd_ne hb] at e ⊢
      exact h a u e
  · by_cases hb : b = p
    · subst hb
      exact .inr n
    · rw [upd_ne hb] at q
      exact .inl q
theorem Grow.new {p : Addr} {o : HO} (h : Ex H0 H) (n : H p = none) : Grow H0 H H0 (upd H p o) := ⟨.refl _, .new n, h.trans (.new n), fun _ q => .inl q⟩

/-- a result: data, or a new list -/
def ResR (H H0' H' : Hp) (v : V) : RV → Prop
  | .dat d => Rep H0' v d
  | .new ds => ∃ a ws, v = .ref a ∧ H a = none ∧ H0' a = none ∧ H' a = some (.lst ws) ∧ ds.length ≤ 16777216 ∧ Reps H0' ws ds
def ResK (H0 H : Hp) (rv : RV) (Q : VK) : Prop := ∀ v H0' H', Grow H0 H H0' H' → ResR H H0' H' v rv → Q v H'
theorem ResK.sc {d : D} {Q : VK} {v : V} (h : ResK H0 H (.dat d) Q) (e : Ex H0 H) (r : Rep H0 v d) : Q v H := h v H0 H (.refl e) r
theorem ResK.newL {ds : List D} {Q : VK} {ws : List V} (h : ResK H0 H (.new ds) Q) (e : Ex H0 H) (l : ds.length ≤ 16777216) (r : Reps H0 ws ds) : ∀ p, H p = none → Q (.ref p) (upd H p (.lst ws)) := fun p n =>
  h _ H0 _ (.new e n) ⟨p, ws, rfl, n, e.back n, upd_same, l, r⟩
theorem ResK.newT {ds : List D} {Q : VK} {ws : List V} (h : ResK H0 H (.dat (.tuple ds)) Q) (e : Ex H0 H) (l : ds.length ≤ 16777216) (r : Reps H0 ws ds) : ∀ p, H p = none → Q (.ref p) (upd H p (.tup ws)) := fun p n =>
  h _ _ _ (.tup e n) (.tup (.inl upd_same) l (r.mono (.new (e.back n))))
end

/-! ### operators -/
/-- the reading of an operator on data -/
def rOp (o : Op) : R2 := fun x y H Q => ∃ H0 dx dy rv, Ex H0 H ∧ OpV H0 H x dx ∧ OpV H0 H y dy ∧ op2 o dx dy = some rv ∧ ResK H0 H rv Q
theorem line_eq : sizeLine = 16777216 := sizeLine_eq
section
variable {X : Cx}
theorem Inv.rdL {pins : List (Addr × Obj)} {σ : St} {H : Hp} {s : Shared} {l : Addr} {xs : List V} (I : Inv X pins σ H s) (h : Rd H l (.lst xs)) :
    xs.length ≤ sizeLine ∧ ∃ (its : List Value) (n : Nat), Vals xs its ∧ xs.length = its.length ∧ s.heap.get? l = some { cls := .type "list", data := .seq its.toArray n } := by
  obtain ⟨z, its, n, r, e⟩ := h.ok I.hok
  exact ⟨z, its, n, r, r.length, e⟩
theorem op_catL : OpR X (binaryOp .Add) (fun x y H Q => ∃ l b xs zs, x = .ref l ∧ y = .ref b ∧ Rd H l (.lst xs) ∧ Rd H b (.lst zs) ∧ xs.length + zs.length ≤ sizeLine ∧ ∀ p, H p = none → Q (.ref p) (upd H p (.lst (xs ++ zs)))) := by
  intro pins s σ H x y v u Q I rx ry h
  obtain ⟨l, b, xs, zs, rfl, rfl, hH, hB, hz, q⟩ := h
  cases rx
  cases ry
  obtain ⟨z, its, n, r, hl, e⟩ := Inv.rdL I hH
  obtain ⟨z2, its2, n2, r2, hl2, e2⟩ := Inv.rdL I hB
  refine PySem.P.add_list e e2 ?_ (by rw [List.size_toArray, List.size_toArray]; omega)
  have ea : its.toArray ++ its2.toArray = (its ++ its2).toArray := by simp
  rw [ea]
  exact ⟨.ref _, _, I.lnew (t' := s.toks) (r.append r2) (by rw [List.length_append]; omega), rfl, q _ I.fresh⟩
end
end NG

/-! NG3: operators and builtins on data keep their readings. -/
namespace NG
open PySem L2 PyProof.Rows

theorem strOk_app {a b : Str} (h : PyData.strOk a = true) (h' : PyData.strOk b = true) : PyData.strOk (a ++ b) = true := by
  show (a.cps ++ b.cps).all _ = true
  rw [Array.all_append]
  exact Bool.and_eq_true_iff.mpr ⟨h, h'⟩
theorem str_len_app (a b : Str) : (a ++ b).length = a.length + b.length := Array.size_append
theorem nil_of_len {α β : Type} {a : List α} {b : List β} (h : a.length = b.length) (e : a = []) : b = [] := by
  subst e
  exact List.eq_nil_of_length_eq_zero h.symm

section
variable {X : Cx}
theorem o_add : OpR X (binaryOp .Add) (rOp .add) := by
  rintro pins s σ H x y v u Q I rx ry ⟨H0, dx, dy, rv, e, ox, oy, ho, k⟩
  unfold op2 at ho
  simp only at ho
  split at ho
  · cases ho
    exact op_add pins s σ H x y v u Q I rx ry ⟨_, _, ox.int, oy.int, k.sc e (.int _)⟩
  · rename_i xs ys
    split at ho
    · rename_i hl
      cases ho
      obtain ⟨a, ws, rfl, sa, la, ra⟩ := ox.tup
      obtain ⟨b, us, rfl, sb, lb, rb⟩ := oy.tup
      have e1 := ra.len
      have e2 := rb.len
      refine op_catA pins s σ H _ _ v u Q I rx ry ⟨a, b, ws, us, rfl, rfl, .inl (e.rd sa), .inl (e.rd sb), by rw [line_eq]; omega, fun h => ?_, fun _ h => ?_, fun _ _ => ?_⟩
      · have h2 := nil_of_len e1 h
        subst h2
        exact k.sc e oy
      · have h2 := nil_of_len e2 h
        subst h2
        rw [List.append_nil] at k
        exact k.sc e ox
      · exact k.newT e (by rw [List.length_append]; exact hl) (ra.app rb)
    · cases ho
  · rename_i xs ys
    split at ho
    · rename_i hl
      cases ho
      obtain ⟨a, ws, rfl, sa, la, ra⟩ := ox
      obtain ⟨b, us, rfl, sb, lb, rb⟩ := oy
      have e1 := ra.len
      have e2 := rb.len
      exact op_catL pins s σ H _ _ v u Q I rx ry ⟨a, b, ws, us, rfl, rfl, sa, sb, by rw [line_eq]; omega, k.newL e (by rw [List.length_append]; exact hl) (ra.app rb)⟩
    · cases ho
  · split at ho
    · rename_i hl
      cases ho
      obtain ⟨e1, l1, k1⟩ := ox.str
      obtain ⟨e2, l2, k2⟩ := oy.str
      exact op_add_str pins s σ H x y v u Q I rx ry ⟨_, _, e1, e2, by rw [line_eq]; exact hl, k.sc e (.str _ (by rw [str_len_app]; exact hl) (strOk_app k1 k2))⟩
    · cases ho
  · cases ho
theorem o_sub : OpR X (binaryOp .Sub) (rOp .sub) := by
  rintro pins s σ H x y v u Q I rx ry ⟨H0, dx, dy, rv, e, ox, oy, ho, k⟩
  unfold op2 at ho
  simp only at ho
  split at ho
  · cases ho
    exact op_sub pins s σ H x y v u Q I rx ry ⟨_, _, ox.int, oy.int, k.sc e (.int _)⟩
  · cases ho
theorem mulOk_c {i j : Int} (h : mulOk i j = true) : CMul i j := by
  unfold mulOk at h
  simp only [Bool.or_eq_true, Bool.and_eq_true, decide_eq_true_eq] at h
  exact h
theorem o_mul : OpR X (binaryOp .Mult) (rOp .mul) := by
  rintro pins s σ H x y v u Q I rx ry ⟨H0, dx, dy, rv, e, ox, oy, ho, k⟩
  unfold op2 at ho
  simp only at ho
  split at ho
  · split at ho
    · rename_i hl
      cases ho
      exact op_mul pins s σ H x y v u Q I rx ry ⟨_, _, ox.int, oy.int, mulOk_c hl, k.sc e (.int _)⟩
    · cases ho
  · cases ho
theorem o_mod : OpR X (binaryOp .Mod) (rOp .mod) := by
  rintro pins s σ H x y v u Q I rx ry ⟨H0, dx, dy, rv, e, ox, oy, ho, k⟩
  unfold op2 at ho
  simp only at ho
  split at ho
  · split at ho
    · rename_i hl
      cases ho
      exact op_modN pins s σ H x y v u Q I rx ry ⟨_, _, ox.int, oy.int, hl, k.sc e (.int _)⟩
    · cases ho
  · cases ho
theorem o_fdiv : OpR X (binaryOp .FloorDiv) (rOp .fdiv) := by
  rintro pins s σ H x y v u Q I rx ry ⟨H0, dx, dy, rv, e, ox, oy, ho, k⟩
  unfold op2 at ho
  simp only at ho
  split at ho
  · split at ho
    · rename_i hl
      cases ho
      exact op_fdivN pins s σ H x y v u Q I rx ry ⟨_, _, ox.int, oy.int, hl, k.sc e (.int _)⟩
    · cases ho
  · cases ho
theorem o_pow : OpR X (binaryOp .Pow) (rOp .pow) := by
  rintro pins s σ H x y v u Q I rx ry ⟨H0, dx, dy, rv, e, ox, oy, ho, k⟩
  unfold op2 at ho
  simp only at ho
  split at ho
  · split at ho
    · rename_i hl
      cases ho
      exact op_pow pins s σ H x y v u Q I rx ry ⟨_, _, ox.int, oy.int, hl, k.sc e (.int _)⟩
    · cases ho
  · cases ho
theorem o_bin {o : Operator} {p : Op} (h : opOf o = some p) : OpR X (binaryOp o) (rOp p) := by
  cases o <;> cases h
  · exact o_add
  · exact o_sub
  · exact o_mul
  · exact o_mod
  · exact o_pow
  · exact o_fdiv

/-! comparisons -/
theorem o_eq (hu : X.A.units + 65 < cLine) : OpR X (compareOp .Eq) (rOp .eq) := by
  rintro pins s σ H x y v u Q I rx ry ⟨H0, dx, dy, rv, e, ox, oy, ho, k⟩
  unfold op2 at ho
  simp only at ho
  split at ho
  · rename_i hl
    cases ho
    have r1 := ox.rep e
    have r2 := oy.rep e
    obtain ⟨as, d1⟩ := Dp.reads I dx x v (r1.dp X.K _ _) rx
    obtain ⟨bs, d2⟩ := Dp.reads I dy y u (r2.dp X.K _ _) ry
    have hm : min dx.depth dy.depth ≤ 64 := of_decide_eq_true hl
    exact SeqAt.compareEq_reads d1 d2 (r1.lay _ _) (r2.lay _ _) (by omega) ⟨.bl _, H, I, rfl, k.sc e (.bl _)⟩
  · cases ho
theorem o_ne (hu : X.A.units + 65 < cLine) : OpR X (compareOp .NotEq) (rOp .ne) := by
  rintro pins s σ H x y v u Q I rx ry ⟨H0, dx, dy, rv, e, ox, oy, ho, k⟩
  unfold op2 at ho
  simp only at ho
  split at ho
  · rename_i hl
    cases ho
    have r1 := ox.rep e
    have r2 := oy.rep e
    obtain ⟨as, d1⟩ := Dp.reads I dx x v (r1.dp X.K _ _) rx
    obtain ⟨bs, d2⟩ := Dp.reads I dy y u (r2.dp X.K _ _) ry
    have hm : min dx.depth dy.depth ≤ 64 := of_decide_eq_true hl
    exact SeqAt.compareNe_reads d1 d2 (r1.lay _ _) (r2.lay _ _) (by omega) ⟨.bl _, H, I, rfl, k.sc e (.bl _)⟩
  · cases ho
theorem o_cmpI {op : CmpOp} {p : Op} {g : Int → Int → Bool} (rule : OpR X (compareOp op) (rI0 fun i j => .bl (g i j)))
    (hp : ∀ dx dy rv, op2 p dx dy = some rv → ∃ i j, dx = .int i ∧ dy = .int j ∧ rv = .dat (.bool (g i j))) : OpR X (compareOp op) (rOp p) := by
  rintro pins s σ H x y v u Q I rx ry ⟨H0, dx, dy, rv, e, ox, oy, ho, k⟩
  obtain ⟨i, j, rfl, rfl, rfl⟩ := hp _ _ _ ho
  exact rule pins s σ H x y v u Q I rx ry ⟨_, _, ox.int, oy.int, k.sc e (.bl _)⟩
theorem o_lt : OpR X (compareOp .Lt) (rOp .lt) := o_cmpI op_lt fun dx dy rv h => by
  unfold op2 at h
  simp only at h
  split at h <;> cases h
  exact ⟨_, _, rfl, rfl, rfl⟩
theorem o_le : OpR X (compareOp .LtE) (rOp .le) := o_cmpI op_le fun dx dy rv h => by
  unfold op2 at h
  simp only at h
  split at h <;> cases h
  exact ⟨_, _, rfl, rfl, rfl⟩
theorem o_gt : OpR X (compareOp .Gt) (rOp .gt) := o_cmpI op_gt fun dx dy rv h => by
  unfold op2 at h
  simp only at h
  split at h <;> cases h
  exact ⟨_, _, rfl, rfl, rfl⟩
theorem o_ge : OpR X (compareOp .GtE) (rOp .ge) := o_cmpI op_ge fun dx dy rv h => by
  unfold op2 at h
  simp only at h
  split at h <;> cases h
  exact ⟨_, _, rfl, rfl, rfl⟩
theorem isNon_v {H0 H : Hp} {x : V} {d : D} (o : OpV H0 H x d) : decide (x = .non) = isNon d := by
  cases d with
  | none => rw [o.non]; rfl
  | bool b => rw [o.bl]; rfl
  | int i => rw [o.int]; rfl
  | str z => rw [o.str.1]; rfl
  | list ds => obtain ⟨a, ws, rfl, _⟩ := o; rfl
  | tuple ds => obtain ⟨a, ws, rfl, _⟩ := o.tup; rfl
  | dict ds => cases (show Rep H0 x (.dict ds) from o)
theorem o_is : OpR X (compareOp .Is) (rOp .isN) := by
  rintro pins s σ H x y v u Q I rx ry ⟨H0, dx, dy, rv, e, ox, oy, ho, k⟩
  unfold op2 isOp at ho
  simp only at ho
  split at ho
  · cases ho
    refine op_isN pins s σ H x y v u Q I rx ry ⟨oy.non, ?_⟩
    rw [isNon_v ox]
    exact k.sc e (.bl _)
  · split at ho
    · cases ho
      exact op_isBl pins s σ H x y v u Q I rx ry ⟨_, _, ox.bl, oy.bl, k.sc e (.bl _)⟩
    · cases ho
  · cases ho
theorem o_isnt : OpR X (compareOp .IsNot) (rOp .isnt) := by
  rintro pins s σ H x y v u Q I rx ry ⟨H0, dx, dy, rv, e, ox, oy, ho, k⟩
  unfold op2 isOp at ho
  simp only at ho
  split at ho
  · cases ho
    refine op_notN pins s σ H x y v u Q I rx ry ⟨oy.non, ?_⟩
    rw [isNon_v ox]
    exact k.sc e (.bl _)
  · split at ho
    · cases ho
      exact op_notBl pins s σ H x y v u Q I rx ry ⟨_, _, ox.bl, oy.bl, k.sc e (.bl _)⟩
    · cases ho
  · cases ho
theorem isIn_any (x : D) : ∀ ys : List D, isIn x ys = ys.any fun y => PyData.eqv y x
  | [] => rfl
  | y :: ys => by
    show (PyData.eqv y x || isIn x ys) = _
    rw [isIn_any x ys, List.any_cons]
theorem lay_list {ds : List D} (h : PyData.canLay0 (.list ds) = true) : PyData.canLayAll0 ds = true := h
theorem lay_tup {ds : List D} (h : PyData.canLay0 (.tuple ds) = true) : PyData.canLayAll0 ds = true := h
theorem o_in (hu : X.A.units + 65 < cLine) : OpR X (compareOp .In) (rOp .inn) := by
  rintro pins s σ H x y v u Q I rx ry ⟨H0, dx, dy, rv, e, ox, oy, ho, k⟩
  unfold op2 at ho
  simp only at ho
  have r1 := ox.rep e
  have r2 := oy.rep e
  obtain ⟨as, d1⟩ := Dp.reads I dx x v (r1.dp X.K _ _) rx
  obtain ⟨bs, d2⟩ := Dp.reads I dy y u (r2.dp X.K _ _) ry
  split at ho
  · split at ho
    · rename_i hl
      cases ho
      have hm := of_decide_eq_true hl
      refine SeqAt.in_list_reads d2 d1 (lay_list (r2.lay _ _)) (r1.lay _ _) (by omega) ?_
      rw [← isIn_any]
      exact ⟨.bl _, H, I, rfl, k.sc e (.bl _)⟩
    · cases ho
  · split at ho
    · rename_i hl
      cases ho
      have hm := of_decide_eq_true hl
      refine SeqAt.in_tuple_reads d2 d1 (lay_tup (r2.lay _ _)) (r1.lay _ _) (by omega) ?_
      rw [← isIn_any]
      exact ⟨.bl _, H, I, rfl, k.sc e (.bl _)⟩
    · cases ho
  · cases ho
theorem o_notin (hu : X.A.units + 65 < cLine) : OpR X (compareOp .NotIn) (rOp .notin) := by
  rintro pins s σ H x y v u Q I rx ry ⟨H0, dx, dy, rv, e, ox, oy, ho, k⟩
  unfold op2 at ho
  simp only at ho
  have r1 := ox.rep e
  have r2 := oy.rep e
  obtain ⟨as, d1⟩ := Dp.reads I dx x v (r1.dp X.K _ _) rx
  obtain ⟨bs, d2⟩ := Dp.reads I dy y u (r2.dp X.K _ _) ry
  split at ho
  · split at ho
    · rename_i hl
      cases ho
      have hm := of_decide_eq_true hl
      refine SeqAt.notIn_list_reads d2 d1 (lay_list (r2.lay _ _)) (r1.lay _ _) (by omega) ?_
      rw [← isIn_any]
      exact ⟨.bl _, H, I, rfl, k.sc e (.bl _)⟩
    · cases ho
  · split at ho
    · rename_i hl
      cases ho
      have hm := of_decide_eq_true hl
      refine SeqAt.notIn_tuple_reads d2 d1 (lay_tup (r2.lay _ _)) (r1.lay _ _) (by omega) ?_
      rw [← isIn_any]
      exact ⟨.bl _, H, I, rfl, k.sc e (.bl _)⟩
    · cases ho
  · cases ho
theorem o_cmp (hu : X.A.units + 65 < cLine) (o : CmpOp) : OpR X (compareOp o) (rOp (cmpOf o)) := by
  cases o
  · exact o_eq hu
  · exact o_ne hu
  · exact o_lt
  · exact o_le
  · exact o_gt
  · exact o_ge
  · exact o_is
  · exact o_isnt
  · exact o_in hu
  · exact o_notin hu

/-! subscripts -/
theorem one_code {s : Str} {j : Nat} {c : Nat} (h : PyData.strOk s = true) (e : s.cps.toList[j]? = some c) : PyData.strOk ⟨#[c]⟩ = true := by
  have hc : c ∈ s.cps := Array.mem_toList_iff.mp (List.mem_of_getElem? e)
  have q := Array.all_eq_true_iff_forall_mem.mp h c hc
  show (#[c] : Array Nat).all _ = true
  simpa using q
theorem o_idx : IxR X (rOp .idx) := by
  rintro value slice pins s σ H x y v u Q I rx ry ⟨H0, dx, dy, rv, e, ox, oy, ho, k⟩ hs
  unfold op2 at ho
  simp only at ho
  have at_of : ∀ {α β : Type} {xs : List α} {ys : List β} {i : Int} {j : Nat} {y : β}, ys.length = xs.length → ixN xs.length i = some j → ys[j]? = some y → atI ys i = some y := fun {α β xs ys i j y} h1 h2 h3 => by
    unfold atI
    rw [h1, h2]
    exact h3
  split at ho
  · split at ho
    · rename_i xs i _ j hj
      cases hx : xs[j]? with
      | none => rw [hx] at ho; cases ho
      | some d =>
        rw [hx] at ho
        cases ho
        obtain ⟨a, ws, rfl, sa, la, ra⟩ := ox
        obtain ⟨w, h1, h2⟩ := ra.get hx
        exact ix_list value slice pins s σ H _ _ v u Q I rx ry ⟨a, ws, _, w, rfl, oy.int, .inl sa, at_of ra.len hj h1, k.sc e h2⟩ hs
    · cases ho
  · split at ho
    · rename_i xs i _ j hj
      cases hx : xs[j]? with
      | none => rw [hx] at ho; cases ho
      | some d =>
        rw [hx] at ho
        cases ho
        obtain ⟨a, ws, rfl, sa, la, ra⟩ := ox.tup
        obtain ⟨w, h1, h2⟩ := ra.get hx
        exact ix_tup value slice pins s σ H _ _ v u Q I rx ry ⟨a, ws, _, w, rfl, oy.int, .inl (e.rd sa), at_of ra.len hj h1, k.sc e h2⟩ hs
    · cases ho
  · split at ho
    · rename_i z i _ j hj
      cases hx : z.cps.toList[j]? with
      | none => rw [hx] at ho; cases ho
      | some c =>
        rw [hx] at ho
        cases ho
        obtain ⟨e1, l1, k1⟩ := ox.str
        exact ix_str value slice pins s σ H _ _ v u Q I rx ry ⟨z, _, c, e1, oy.int, by rw [line_eq]; exact l1, at_of rfl hj hx, k.sc e (.str _ (by show 1 ≤ _; omega) (one_code k1 hx))⟩ hs
    · cases ho
  · cases ho
end
end NG

/-! NG4: builtins on data keep their readings. -/
namespace NG
open PySem L2 PyProof.Rows

/-! least, greatest, sorted -/
theorem maxF_spec : ∀ (xs : List Int) (x : Int), (xs.foldl (fun a b => if b > a then b else a) x) ∈ x :: xs ∧ ∀ y ∈ x :: xs, y ≤ xs.foldl (fun a b => if b > a then b else a) x
  | [], x => ⟨List.mem_cons_self, fun y h => by simp at h; subst h; exact Int.le_refl _⟩
  | z :: xs, x => by
    obtain ⟨h1, h2⟩ := maxF_spec xs (if z > x then z else x)
    rw [List.foldl_cons]
    refine ⟨?_, fun y h => ?_⟩
    · rcases List.mem_cons.mp h1 with h | h
      · rw [h]
        split <;> simp
      · exact List.mem_cons_of_mem _ (List.mem_cons_of_mem _ h)
    · have h3 := h2 _ List.mem_cons_self
      have hx : x ≤ (if z > x then z else x) := by split <;> omega
      have hz : z ≤ (if z > x then z else x) := by split <;> omega
      rcases List.mem_cons.mp h with h | h
      · rw [h]; exact Int.le_trans hx h3
      · rcases List.mem_cons.mp h with h | h
        · rw [h]; exact Int.le_trans hz h3
        · exact h2 y (List.mem_cons_of_mem _ h)
theorem minF_spec : ∀ (xs : List Int) (x : Int), (xs.foldl (fun a b => if b < a then b else a) x) ∈ x :: xs ∧ ∀ y ∈ x :: xs, xs.foldl (fun a b => if b < a then b else a) x ≤ y
  | [], x => ⟨List.mem_cons_self, fun y h => by simp at h; subst h; exact Int.le_refl _⟩
  | z :: xs, x => by
    obtain ⟨h1, h2⟩ := minF_spec xs (if z < x then z else x)
    rw [List.foldl_cons]
    refine ⟨?_, fun y h => ?_⟩
    · rcases List.mem_cons.mp h1 with h | h
      · rw [h]
        split <;> simp
      · exact List.mem_cons_of_mem _ (List.mem_cons_of_mem _ h)
    · have h3 := h2 _ List.mem_cons_self
      have hx : (if z < x then z else x) ≤ x := by split <;> omega
      have hz : (if z < x then z else x) ≤ z := by split <;> omega
      rcases List.mem_cons.mp h with h | h
      · rw [h]; exact Int.le_trans h3 hx
      · rcases List.mem_cons.mp h with h | h
        · rw [h]; exact Int.le_trans h3 hz
        · exact h2 y (List.mem_cons_of_mem _ h)
theorem maxL_eq {ns : List Int} {m k : Int} (h : maxL ns = some m) (h1 : k ∈ ns) (h2 : ∀ y ∈ ns, y ≤ k) : k = m := by
  cases ns with
  | nil => cases h
  | cons x xs =>
    cases h
    obtain ⟨a, b⟩ := maxF_spec xs x
    exact Int.le_antisymm (b k h1) (h2 _ a)
theorem minL_eq {ns : List Int} {m k : Int} (h : minL ns = some m) (h1 : k ∈ ns) (h2 : ∀ y ∈ ns, k ≤ y) : k = m := by
  cases ns with
  | nil => cases h
  | cons x xs =>
    cases h
    obtain ⟨a, b⟩ := minF_spec xs x
    exact Int.le_antisymm (h2 _ a) (b k h1)
theorem insI_perm (x : Int) : ∀ ys : List Int, (insI x ys).Perm (x :: ys)
  | [] => .refl _
  | y :: ys => by
    unfold insI
    split
    · exact .refl _
    · exact ((insI_perm x ys).cons y).trans (.swap x y ys)
theorem sortI_perm : ∀ xs : List Int, (sortI xs).Perm xs
  | [] => .refl _
  | x :: xs => (insI_perm x _).trans ((sortI_perm xs).cons x)
theorem insI_le (x : Int) : ∀ ys : List Int, ys.Pairwise (· ≤ ·) → (insI x ys).Pairwise (· ≤ ·)
  | [], _ => List.pairwise_singleton _ _
  | y :: ys, h => by
    obtain ⟨h1, h2⟩ := List.pairwise_cons.mp h
    unfold insI
    split
    · rename_i hx
      refine List.pairwise_cons.mpr ⟨fun z hz => ?_, h⟩
      rcases List.mem_cons.mp hz with e | hz
      · subst e; exact hx
      · exact Int.le_trans hx (h1 z hz)
    · rename_i hx
      refine List.pairwise_cons.mpr ⟨fun z hz => ?_, insI_le x ys h2⟩
      rcases List.mem_cons.mp ((insI_perm x ys).mem_iff.mp hz) with e | hz
      · subst e; omega
      · exact h1 z hz
theorem sortI_le : ∀ xs : List Int, (sortI xs).Pairwise (· ≤ ·)
  | [] => .nil
  | x :: xs => insI_le x _ (sortI_le xs)
theorem sorted_eq {a b : List Int} (hp : a.Perm b) (ha : a.Pairwise (· ≤ ·)) : a = sortI b :=
  PySem.W.ksm_same (hp.trans (sortI_perm b).symm) ha (sortI_le b)

/-! ### one argument -/
def rB1 (b : Bi) : List V → Hp → VK → Prop := fun vs H Q => ∃ H0 x d rv, vs = [x] ∧ Ex H0 H ∧ OpV H0 H x d ∧ bi1 b d = some rv ∧ ResK H0 H rv Q
def rB2 (b : Bi) : List V → Hp → VK → Prop := fun vs H Q => ∃ H0 x y d d' rv, vs = [x, y] ∧ Ex H0 H ∧ OpV H0 H x d ∧ OpV H0 H y d' ∧ bi2 b d d' = some rv ∧ ResK H0 H rv Q
def biV : Bi → Value
  | .len => .builtin "len"
  | .sum => .builtin "sum"
  | .all => .builtin "all"
  | .any => .builtin "any"
  | .min => .builtin "min"
  | .max => .builtin "max"
  | .abs => .builtin "abs"
  | .int => .type "int"
  | .tuple => .type "tuple"
  | .list => .type "list"
  | .sorted => .builtin "sorted"
  | .str => .type "str"
section
variable {X : Cx}
theorem map_some {α β : Type} {o : Option α} {f : α → β} {b : β} (h : o.map f = some b) : ∃ a, o = some a ∧ f a = b := by
  cases o with
  | none => cases h
  | some a => cases h; exact ⟨a, rfl, rfl⟩
theorem b_len : CallR X (.builtin "len") (rB1 .len) := by
  rintro pins s σ H vs us Q I r ⟨H0, x, d, rv, rfl, e, o, hb, k⟩
  unfold bi1 at hb
  simp only at hb
  obtain ⟨n, hn, rfl⟩ := map_some hb
  have q : Q (.int (n : Int)) H := k.sc e (.int _)
  refine call_len pins s σ H _ us Q I r ⟨x, n, rfl, ?_, q⟩
  cases d with
  | list ds =>
    cases hn
    obtain ⟨a, ws, rfl, sa, la, ra⟩ := o
    exact Or.inl ⟨ws, .inl sa, ra.len.symm⟩
  | tuple ds =>
    cases hn
    obtain ⟨a, ws, rfl, sa, la, ra⟩ := o.tup
    exact Or.inr ⟨ws, .inl (e.rd sa), ra.len.symm⟩
  | str z =>
    cases hn
    obtain ⟨rfl, l, _⟩ := o.str
    exact ⟨by rw [line_eq]; exact l, rfl⟩
  | none => cases hn
  | bool _ => cases hn
  | int _ => cases hn
  | dict _ => cases hn
theorem b_sum (hc : X.calm = true) : CallR X (.builtin "sum") (rB1 .sum) := by
  rintro pins s σ H vs us Q I r ⟨H0, x, d, rv, rfl, e, o, hb, k⟩
  unfold bi1 at hb
  simp only at hb
  split at hb
  · obtain ⟨ns, hn, rfl⟩ := map_some hb
    obtain ⟨a, ws, rfl, sa, la, ra⟩ := o
    obtain ⟨rfl, _⟩ := ra.ints hn
    exact cr_sum hc pins s σ H _ us Q I r ⟨a, ns, rfl, .inl sa, k.sc e (.int _)⟩
  · cases hb
theorem b_all (hc : X.calm = true) : CallR X (.builtin "all") (rB1 .all) := by
  rintro pins s σ H vs us Q I r ⟨H0, x, d, rv, rfl, e, o, hb, k⟩
  unfold bi1 at hb
  simp only at hb
  split at hb
  · obtain ⟨ns, hn, rfl⟩ := map_some hb
    obtain ⟨a, ws, rfl, sa, la, ra⟩ := o
    obtain ⟨rfl, _⟩ := ra.bls hn
    exact cr_all hc pins s σ H _ us Q I r ⟨a, ns, rfl, .inl sa, k.sc e (.bl _)⟩
  · cases hb
theorem b_any (hc : X.calm = true) : CallR X (.builtin "any") (rB1 .any) := by
  rintro pins s σ H vs us Q I r ⟨H0, x, d, rv, rfl, e, o, hb, k⟩
  unfold bi1 at hb
  simp only at hb
  split at hb
  · obtain ⟨ns, hn, rfl⟩ := map_some hb
    obtain ⟨a, ws, rfl, sa, la, ra⟩ := o
    obtain ⟨rfl, _⟩ := ra.bls hn
    exact cr_any hc pins s σ H _ us Q I r ⟨a, ns, rfl, .inl sa, k.sc e (.bl _)⟩
  · cases hb
theorem maxL_ne {ns : List Int} {m : Int} (h : maxL ns = some m) : 0 < ns.length := by
  cases ns with
  | nil => cases h
  | cons _ _ => exact Nat.succ_pos _
theorem minL_ne {ns : List Int} {m : Int} (h : minL ns = some m) : 0 < ns.length := by
  cases ns with
  | nil => cases h
  | cons _ _ => exact Nat.succ_pos _
theorem b_max (hc : X.calm = true) : CallR X (.builtin "max") (rB1 .max) := by
  rintro pins s σ H vs us Q I r ⟨H0, x, d, rv, rfl, e, o, hb, k⟩
  unfold bi1 at hb
  simp only at hb
  split at hb
  · split at hb
    · rename_i ns hn
      obtain ⟨m, hm, rfl⟩ := map_some hb
      obtain ⟨a, ws, rfl, sa, la, ra⟩ := o
      obtain ⟨rfl, _⟩ := ra.ints hn
      refine cr_max hc pins s σ H _ us Q I r ⟨a, ns, rfl, .inl sa, maxL_ne hm, fun m' h1 h2 => ?_⟩
      rw [maxL_eq hm h1 h2]
      exact k.sc e (.int _)
    · cases hb
  · cases hb
theorem b_min (hc : X.calm = true) : CallR X (.builtin "min") (rB1 .min) := by
  rintro pins s σ H vs us Q I r ⟨H0, x, d, rv, rfl, e, o, hb, k⟩
  unfold bi1 at hb
  simp only at hb
  split at hb
  · split at hb
    · rename_i ns hn
      obtain ⟨m, hm, rfl⟩ := map_some hb
      obtain ⟨a, ws, rfl, sa, la, ra⟩ := o
      obtain ⟨rfl, _⟩ := ra.ints hn
      refine cr_min hc pins s σ H _ us Q I r ⟨a, ns, rfl, .inl sa, minL_ne hm, fun m' h1 h2 => ?_⟩
      rw [minL_eq hm h1 h2]
      exact k.sc e (.int _)
    · cases hb
  · cases hb
theorem b_abs : CallR X (.builtin "abs") (rB1 .abs) := by
  rintro pins s σ H vs us Q I r ⟨H0, x, d, rv, rfl, e, o, hb, k⟩
  unfold bi1 at hb
  simp only at hb
  split at hb
  · cases hb
    rw [o.int] at r
    exact call_abs pins s σ H _ us Q I r ⟨_, rfl, k.sc e (.int _)⟩
  · cases hb
theorem b_int : CallR X (.type "int") (rB1 .int) := by
  rintro pins s σ H vs us Q I r ⟨H0, x, d, rv, rfl, e, o, hb, k⟩
  unfold bi1 at hb
  simp only at hb
  split at hb
  · cases hb
    rw [o.int] at r
    exact call_int1 pins s σ H _ us Q I r (.inl ⟨_, rfl, k.sc e (.int _)⟩)
  · cases hb
    rw [o.bl] at r
    exact call_int1 pins s σ H _ us Q I r (.inr ⟨_, rfl, k.sc e (.int _)⟩)
  · cases hb
theorem b_tuple : CallR X (.type "tuple") (rB1 .tuple) := by
  rintro pins s σ H vs us Q I r ⟨H0, x, d, rv, rfl, e, o, hb, k⟩
  unfold bi1 at hb
  simp only at hb
  obtain ⟨xs, hx, rfl⟩ := map_some hb
  cases d with
  | list ds =>
    cases hx
    obtain ⟨a, ws, rfl, sa, la, ra⟩ := o
    exact call_tuple_of pins s σ H _ us Q I r ⟨a, ws, rfl, .inl ⟨.inl sa, k.newT e la ra⟩⟩
  | tuple ds =>
    cases hx
    obtain ⟨a, ws, rfl, sa, la, ra⟩ := o.tup
    exact call_tuple_of pins s σ H _ us Q I r ⟨a, ws, rfl, .inr ⟨.inl (e.rd sa), k.sc e o⟩⟩
  | none => cases hx
  | bool _ => cases hx
  | int _ => cases hx
  | str _ => cases hx
  | dict _ => cases hx
theorem b_list : CallR X (.type "list") (rB1 .list) := by
  rintro pins s σ H vs us Q I r ⟨H0, x, d, rv, rfl, e, o, hb, k⟩
  unfold bi1 at hb
  simp only at hb
  obtain ⟨xs, hx, rfl⟩ := map_some hb
  cases d with
  | list ds =>
    cases hx
    obtain ⟨a, ws, rfl, sa, la, ra⟩ := o
    exact call_list_of pins s σ H _ us Q I r ⟨a, ws, rfl, .inl (.inl sa), k.newL e la ra⟩
  | tuple ds =>
    cases hx
    obtain ⟨a, ws, rfl, sa, la, ra⟩ := o.tup
    exact call_list_of pins s σ H _ us Q I r ⟨a, ws, rfl, .inr (.inl (e.rd sa)), k.newL e la ra⟩
  | none => cases hx
  | bool _ => cases hx
  | int _ => cases hx
  | str _ => cases hx
  | dict _ => cases hx
theorem b_sorted : CallR X (.builtin "sorted") (rB1 .sorted) := by
  rintro pins s σ H vs us Q I r ⟨H0, x, d, rv, rfl, e, o, hb, k⟩
  unfold bi1 at hb
  simp only at hb
  split at hb
  · obtain ⟨ns, hn, rfl⟩ := map_some hb
    obtain ⟨a, ws, rfl, sa, la, ra⟩ := o
    obtain ⟨rfl, rfl⟩ := ra.ints hn
    refine cr_sortedI pins s σ H _ us Q I r ⟨a, ns, rfl, .inl sa, fun ns' p h1 h2 hp => ?_⟩
    rw [sorted_eq h1 h2]
    refine k.newL e ?_ (.ofInts _) p hp
    rw [List.length_map, (sortI_perm ns).length_eq]
    rw [List.length_map] at la
    exact la
  · cases hb
theorem b_one (hc : X.calm = true) (b : Bi) : CallR X (biV b) (rB1 b) := by
  cases b
  · exact b_len
  · exact b_sum hc
  · exact b_all hc
  · exact b_any hc
  · exact b_min hc
  · exact b_max hc
  · exact b_abs
  · exact b_int
  · exact b_tuple
  · exact b_list
  · exact b_sorted
  · rintro pins s σ H vs us Q I r ⟨H0, x, d, rv, rfl, e, o, hb, k⟩
    cases hb
theorem b_two (hc : X.calm = true) (b : Bi) : CallR X (biV b) (rB2 b) := by
  rintro pins s σ H vs us Q I r ⟨H0, x, y, d, d', rv, rfl, e, o, o', hb, k⟩
  unfold bi2 at hb
  split at hb
  · cases hb
    rw [o.int, o'.int] at r
    exact call_min2 hc pins s σ H _ us Q I r ⟨_, _, rfl, k.sc e (.int _)⟩
  · cases hb
    rw [o.int, o'.int] at r
    exact call_max2 hc pins s σ H _ us Q I r ⟨_, _, rfl, k.sc e (.int _)⟩
  · cases hb

/-! ### isinstance -/
def tyS : Ty → String
  | .bool => "bool"
  | .int => "int"
  | .str => "str"
  | .tuple => "tuple"
  | .list => "list"
  | .none => "NoneType"
def tyD : D → String
  | .none => "NoneType"
  | .bool _ => "bool"
  | .int _ => "int"
  | .str _ => "str"
  | .list _ => "list"
  | .tuple _ => "tuple"
  | .dict _ => "dict"
theorem kits : ∀ t : Ty, t ≠ .none → ∀ d : D, (∀ x, d ≠ .dict x) → kitB (tyD d) (tyS t) = tyOk t d := by
  intro t ht d hd
  cases t <;> cases d <;> first | exact absurd rfl ht | exact absurd rfl (hd _) | rfl | (show kitB _ _ = some _; decide +kernel)
theorem tyX {H0 H : Hp} {x : V} {d : D} (e : Ex H0 H) (o : OpV H0 H x d) : TyX X.K H x (.type (tyD d)) := by
  cases d with
  | none => rw [o.non]; exact .base .non
  | bool b => rw [o.bl]; exact .base (.bl _)
  | int i => rw [o.int]; exact .base (.int _)
  | str z => rw [o.str.1]; exact .base (.str _)
  | list ds =>
    obtain ⟨a, ws, rfl, sa, _⟩ := o
    rcases sa with h | ⟨ob, h⟩
    · exact .base (.lst h)
    · exact .base (.frz h)
  | tuple ds =>
    obtain ⟨a, ws, rfl, sa, _⟩ := o.tup
    rcases e.rd sa with h | ⟨ob, h⟩
    · exact .base (.tup h)
    · exact .fTuple h
  | dict ds => cases (show Rep H0 x (.dict ds) from o)
def rIs (t : Ty) : List V → Hp → VK → Prop := fun vs H Q => ∃ H0 x d b, vs = [x, .ty (tyS t)] ∧ Ex H0 H ∧ OpV H0 H x d ∧ tyOk t d = some b ∧ Q (.bl b) H
theorem b_isi {t : Ty} (ht : t ≠ .none) : CallR X (.builtin "isinstance") (rIs t) := by
  rintro pins s σ H vs us Q I r ⟨H0, x, d, b, rfl, e, o, hb, q⟩
  refine call_isi pins s σ H _ us Q I r ⟨x, _, _, _, b, rfl, .ty _, tyX e o, kit_ty ?_, q⟩
  rw [kits t ht d (fun z hz => by subst hz; cases (show Rep H0 x (.dict z) from o)), hb]
end
end NG

/-! NG4S: set(xs) of a list of ints, as sorted wants it. -/
namespace NG
open PySem PySem.Spec L2 PyProof.Rows
/-- a set just made -/
def fso (w : World) : Obj := ⟨.type "set", none,
  .set #[] 0 (.fresh 0 0 (!w.params.followText "set-order")), #[]⟩
section
variable {P : Program} {w : World} {A : Around} {E : Value → Shared → Prop} {s : Shared}
theorem set_listI {l : Addr} {its : Array Value} (ks : List Int) {Q : Value → Shared → Prop} (nh : A.handled = none) (il : s.heap.IsList l its) (ia : IntsAre its.toList ks) (room : ks.length + 1 < scanBound)
    (fin : ∀ (g : Heap) (k c : Nat), SetR w g s.heap.objs.size (fun j => decide (j ∈ ks)) c → c ≤ ks.length → (∀ b o, s.heap.get? b = some o → g.get? b = some o) → Q (.ref s.heap.objs.size) { s with heap := g, toks := k }) : wpAny (model P w) A (call (.type "set") [.ref l]) Q E s := by
  have sz : its.size = ks.length := by rw [← Array.length_toList]; exact ia.length
  obtain ⟨mc, mt, hmro⟩ := F.called_set.mro
  have f1 := F.called_set.made
  have f2 := F.called_set.sub
  refine wpAny_call (codeAny_of_tree ?_)
  show wpAny _ _ (callAny (.type "set") ⟨[.ref l], []⟩) _ _ s
  refine wpAny_pure ⟨Code.quiet_builtin _ (by decide +kernel), ?_⟩
  refine codeAny_builtin F.entry_type_call ?_
  rw [Around.under_plain (weight_type_call_type "set" [.ref l] []) (by rfl)]
  have f3 := F.called_set.notType
  have f4 := F.called_set.canCreate
  have f5 := F.typeCall_set_1 (.ref l)
  repeat any_goals first | assumption | wp_step
  refine codeAny_mono (code_set_led1 (.ref l) (E := E) (Q₁ := fun u s1 => u = .ref s.heap.objs.size ∧ s1 = { s with heap := s.heap.push (fso w) }) ⟨rfl, rfl⟩) fun r s1 h1 => ?_
  rcases r with e | fl
  · exact h1
  cases fl with
  | ret u =>
    obtain ⟨rfl, rfl⟩ := h1
    have at0 : (s.heap.push (fso w)).get? s.heap.objs.size = some (fso w) := Heap.get?_push_size _ rfl
    have ty0 : Shared.TypeIs { s with heap := s.heap.push (fso w) } (.ref s.heap.objs.size) "set" := ⟨_, at0, rfl⟩
    have f6 := F.called_set.init.lookup
    have f7 := F.called_set.init.bind (.ref s.heap.objs.size)
    repeat any_goals first | assumption | wp_step
    refine codeAny_mono (codeAny_call_builtin (R := wants (fun r s2 => r = .none ∧ ∃ g k c, s2 = { s with heap := g, toks := k } ∧ SetR w g s.heap.objs.size (fun j => decide (j ∈ ks)) c ∧ c ≤ ks.length ∧ (∀ b o, s.heap.get? b = some o → g.get? b = some o)) E) F.called_set.init.plain F.entry_set_init (check_set_init_1 ty0 ?_)) fun r2 s2 h2 => ?_
    · obtain ⟨⟨oc, od, odt, osl⟩, ol, hc, n, hd⟩ := il
      simp only at hc hd
      subst hc hd
      have ol1 : (s.heap.push (fso w)).get? l = some ⟨.type "list", od, .seq its n, osl⟩ := Heap.get?_push_of_some _ ol
      have f8 := F.sub_list_set
      have f9 := F.sub_list_frozenset
      have f10 : (Value.type "list" == Value.type "dict") = false := by decide
      have il1 : (s.heap.push (fso w)).IsList l its := ⟨_, ol1, rfl, n, rfl⟩
      unfold Builtin.«set.__init__» noKeywords Builtin.Frozenset.updateFrom
      generalize hPI : pyIter = PI
      wp_walk
      subst hPI
      refine wpAny_pyIter_list il1 ?_
      refine wpAny_bind (wpAny_runValue ?_)
      have ls : l < s.heap.objs.size := Heap.lt_size ol
      have h3 : A.in1.in1.in1.handled = none := by simp [nh]
      have sz1 : (s.heap.push (fso w)).objs.size = s.heap.objs.size + 1 := Heap.size_push ..
      have ne1 : l ≠ (s.heap.push (fso w)).objs.size := by rw [sz1]; exact Nat.ne_of_lt (Nat.lt_succ_of_lt ls)
      have off : s.heap.objs.size ∉ [(s.heap.push (fso w)).objs.size, l] := by
        rw [sz1]
        simp only [List.mem_cons, List.not_mem_nil, or_false, not_or]
        exact And.intro (Nat.ne_of_lt (Nat.lt_succ_self _)) (Nat.ne_of_gt ls)
      have vals : ∀ (i : Nat) (v : Value), its[i]? = some v → ∃ k t, ks[i]? = some k ∧ v = .int k t := fun i v hv => by
        have hi : i < ks.length := by rw [← sz]; exact (Array.getElem?_eq_some_iff.mp hv).1
        obtain ⟨t, e⟩ := ia.int_at i v (by rw [Array.getElem?_toList]; exact hv)
        refine ⟨ks[i], t, List.getElem?_eq_getElem hi, ?_⟩
        rw [e, List.getD_eq_getElem?_getD, List.getElem?_eq_getElem hi]
        rfl
      refine set_update_ints ((Walks.list h3 _ l ne1 its).toS) s.heap.objs.size off ks sz room vals (its.size - 0) 0 _ (by omega) (Nat.zero_le _) ⟨⟨_, Heap.get?_push_size _ rfl, rfl, rfl⟩, il1.push _⟩ ⟨0, Nat.le_refl 0, setR_new_at (Heap.get?_push_of_some _ at0)⟩ ?_
      intro s3 c mv hc3 hS
      obtain ⟨g, gg, gd, gk, go⟩ := s3
      have a1 : gg = s.gens := mv.gens
      have a2 : gd = s.drawn := mv.drawn
      have a3 : go = s.os := mv.os
      subst a1 a2 a3
      show wpAny _ A.in1.in1 (pure ()) _ _ _
      refine wpAny_pure ?_
      show wpAny _ A.in1.in1 (ret Value.none) _ _ _
      rw [sz] at hc3
      refine wpAny_pure ⟨rfl, g, gk, c, rfl, hS, hc3, fun b o e => ?_⟩
      have b0 : b < s.heap.objs.size := Heap.lt_size e
      refine mv.heap b o ?_ (Heap.get?_push_of_some _ (Heap.get?_push_of_some _ e))
      simp only [List.mem_cons, List.not_mem_nil, or_false, not_or]
      show b ≠ s.heap.objs.size ∧ b ≠ (s.heap.push (fso w)).objs.size
      rw [sz1]
      exact And.intro (Nat.ne_of_lt b0) (Nat.ne_of_lt (Nat.lt_succ_of_lt b0))
    · rcases r2 with e | fl2
      · exact h2
      cases fl2 with
      | ret u =>
        obtain ⟨rfl, g, k, c, rfl, hS, hc, hk⟩ := h2
        repeat any_goals first | assumption | wp_step
        exact fin _ _ _ hS hc hk
      | _ => exact h2.elim
  | _ => exact h1.elim
end

end NG

/-! NG4T: sorted(set(..)). -/
namespace NG
open PySem PySem.Spec L2 PyProof.Rows
/-! what sorted makes of it -/
theorem insU_mem (x k : Int) : ∀ ys : List Int, k ∈ insU x ys ↔ k = x ∨ k ∈ ys
  | [] => by simp [insU]
  | y :: ys => by
    unfold insU
    split
    · simp
    · split
      · rename_i h
        subst h
        simp
      · rw [List.mem_cons, insU_mem x k ys, List.mem_cons]
        exact ⟨fun h => by rcases h with h | h | h <;> simp [h], fun h => by rcases h with h | h | h <;> simp [h]⟩
theorem sortU_mem (k : Int) : ∀ xs : List Int, k ∈ sortU xs ↔ k ∈ xs
  | [] => by simp [sortU]
  | x :: xs => by
    unfold sortU
    rw [insU_mem, sortU_mem k xs, List.mem_cons]
theorem insU_lt (x : Int) : ∀ ys : List Int, ys.Pairwise (· < ·) → (insU x ys).Pairwise (· < ·)
  | [], _ => by simp [insU]
  | y :: ys, h => by
    obtain ⟨h1, h2⟩ := List.pairwise_cons.mp h
    unfold insU
    split
    · rename_i q
      refine List.pairwise_cons.mpr ⟨fun z hz => ?_, h⟩
      rcases List.mem_cons.mp hz with e | hz
      · omega
      · have := h1 z hz
        omega
    · split
      · exact h
      · refine List.pairwise_cons.mpr ⟨fun z hz => ?_, insU_lt x ys h2⟩
        rcases (insU_mem x z ys).mp hz with e | hz
        · omega
        · exact h1 z hz
theorem sortU_lt : ∀ xs : List Int, (sortU xs).Pairwise (· < ·)
  | [] => by simp [sortU]
  | x :: xs => insU_lt x _ (sortU_lt xs)
theorem strict_ext : ∀ {a b : List Int}, a.Pairwise (· < ·) → b.Pairwise (· < ·) → (∀ k, k ∈ a ↔ k ∈ b) → a = b
  | [], [], _, _, _ => rfl
  | [], y :: b, _, _, h => by have := (h y).mpr List.mem_cons_self; cases this
  | x :: a, [], _, _, h => by have := (h x).mp List.mem_cons_self; cases this
  | x :: a, y :: b, ha, hb, h => by
    obtain ⟨a1, a2⟩ := List.pairwise_cons.mp ha
    obtain ⟨b1, b2⟩ := List.pairwise_cons.mp hb
    have e : x = y := by
      rcases List.mem_cons.mp ((h x).mp List.mem_cons_self) with e | q1
      · exact e
      · rcases List.mem_cons.mp ((h y).mpr List.mem_cons_self) with e | q2
        · exact e.symm
        · have := b1 x q1
          have := a1 y q2
          omega
    subst e
    rw [strict_ext a2 b2 fun k => ?_]
    refine ⟨fun q => ?_, fun q => ?_⟩
    · rcases List.mem_cons.mp ((h k).mp (List.mem_cons_of_mem _ q)) with e | z
      · have := a1 k q
        omega
      · exact z
    · rcases List.mem_cons.mp ((h k).mpr (List.mem_cons_of_mem _ q)) with e | z
      · have := b1 k q
        omega
      · exact z
theorem setR_count {w : World} {h : Heap} {a : Addr} {ns : List Int} {c : Nat} (R : SetR w h a (fun j => decide (j ∈ ns)) c) : c = (sortU ns).length := by
  obtain ⟨o, es, ep, t, _, _, _, _, nd, hm, _, _, hn, _⟩ := R
  have p := sortI_perm (es.toList.map keyOf)
  have e : sortI (es.toList.map keyOf) = sortU ns := by
    refine strict_ext (lt_of_le_nodup _ (sortI_le _) (p.nodup_iff.mpr nd)) (sortU_lt ns) fun k => ?_
    rw [p.mem_iff, sortU_mem, ← hm k, decide_eq_true_eq]
  rw [← e, p.length_eq, List.length_map, Array.length_toList, hn]
section
variable {X : Cx}
/-- sorted(set(..)) by its argument -/
def tSSet (ta : TE) : TE := fun σ H Q => ta σ H fun x H1 => ∃ H0 d rv, Ex H0 H1 ∧ OpV H0 H1 x d ∧ ssetD d = some rv ∧ ResK H0 H1 rv Q
theorem sset_end {pins : List (Addr × Obj)} {s : Shared} {σ : L2.St} {H : Hp} {Q : VK} {a : Addr} {ns : List Int} {c : Nat} (hc : X.calm = true) (I : Inv X pins σ H s) (R : SetR X.w s.heap a (fun j => decide (j ∈ ns)) c) (h64 : (sortU ns).length < 64) (k : ∀ p, H p = none → Q (.ref p) (upd H p (.lst ((sortU ns).map V.int)))) :
    wpAny (model X.prog X.w) X.A (call (.builtin "sorted") [.ref a]) (EP X pins σ Q) X.xe s := by
  have hcn := setR_count R
  refine sorted_set R (I.ok.hd hc) (by omega) fun s' p out n ms kk g o hp hg hi hs hm hl => ?_
  have e : ms = sortU ns := strict_ext hs (sortU_lt ns) fun j => by rw [hm j, decide_eq_true_eq, sortU_mem]
  subst e
  have lz : ((sortU ns).map V.int).length ≤ sizeLine := by rw [List.length_map, line_eq]; omega
  have hn : H p = none := I.hok.fresh hp
  have J : Inv X pins σ (upd H p (.lst ((sortU ns).map V.int))) ⟨s'.heap, s'.gens, s'.drawn, s'.toks, s.os⟩ :=
    I.call (ch := []) (Un.laid kk hp hn) (I.hok.laid kk hp ⟨lz, out.toList, n, vals_of_ints hi, hg⟩)
      (by rw [g]; exact I.bare) fun _ z => nomatch z
  have e : s' = ⟨s'.heap, s'.gens, s'.drawn, s'.toks, s.os⟩ := by
    cases s'
    cases o
    rfl
  rw [e]
  exact ⟨.ref p, _, J, rfl, k p hn⟩
theorem pe_sset {a : Expr} {ta : TE} {p p2 q pos : Pos} (hc : X.calm = true) (hg : Gl X "sorted") (hm : X.mg "sorted" = none) (hg2 : Gl X "set") (hm2 : X.mg "set" = none) (ha : PE X a ta) (na : starEach [a] X.env = (false, eval a X.env) :: starEach [] X.env) :
    PE X (.Call (.Name "sorted" p) [.Call (.Name "set" p2) [a] [] q] [] pos) (tSSet ta) := by
  refine ⟨fun pins s σ H Q I h => ?_⟩
  refine Call_ (ld_blt I hg hm boot_sorted ?_)
  refine callWith_builtin1 (args_cons ?_ rfl) rfl rfl
  refine Call_ (ld_blt I hg2 hm2 PyProof.Rows.boot_set ?_)
  refine callWith_type1 (args_cons (thn (ha.run pins s σ H _ I h) fun v s1 ⟨x, H1, I1, r1, q1⟩ => args_nil ?_) na) na rfl
  obtain ⟨H0, d, rv, e, o, hd, k⟩ := q1
  unfold ssetD at hd
  split at hd
  · rename_i xs hxs
    split at hd
    · rename_i ns hns
      split at hd
      · rename_i hl
        cases hd
        have fin : ∀ (g : Heap) (tk c : Nat), SetR X.w g s1.heap.objs.size (fun j => decide (j ∈ ns)) c → c ≤ ns.length → (∀ b u, s1.heap.get? b = some u → g.get? b = some u) →
            wpAny (model X.prog X.w) X.A (spliced (backTo pos (starEach [] X.env))) (fun vs s₂ => wpAny (model X.prog X.w) X.A (call (.builtin "sorted") (Value.ref s1.heap.objs.size :: vs)) (EP X pins σ Q) X.xe s₂) X.xe { s1 with heap := g, toks := tk } := fun g tk c R _ kk => by
          refine args_nil ?_
          have I2 : Inv X pins σ H1 { s1 with heap := g, toks := tk } := I1.kept kk
          exact sset_end hc I2 R hl.2 fun p hp => k.newL e (by rw [List.length_map]; omega) (.ofInts _) p hp
        have sb : ns.length + 1 < scanBound := by unfold scanBound; omega
        cases d with
        | list ds =>
          cases hxs
          obtain ⟨l, ws, rfl, sa, la, ra⟩ := o
          obtain ⟨rfl, rfl⟩ := ra.ints hns
          cases r1
          obtain ⟨its, r, pl, hz⟩ := I1.list (.inl sa)
          exact set_listI ns (I1.ok.hd hc) pl.isList (by simpa using ints_of_vals r) sb fin
        | tuple ds =>
          cases hxs
          obtain ⟨l, ws, rfl, sa, la, ra⟩ := o.tup
          obtain ⟨rfl, rfl⟩ := ra.ints hns
          cases r1
          obtain ⟨its, r, pl, hz⟩ := I1.tuple (.inl (e.rd sa))
          exact call_set_tupI ns (I1.ok.hd hc) pl (by simpa using ints_of_vals r) sb fin
        | none => cases hxs
        | bool _ => cases hxs
        | int _ => cases hxs
        | str _ => cases hxs
        | dict _ => cases hxs
      · cases hd
    · cases hd
  · cases hd
end
end NG

/-! NG5: slots over the heap; what an evaluation leaves. -/
namespace NG
open PySem L2

def cellOk (H0 H : Hp) (v : Option (Option V)) (ds : List D) : Prop := ∃ a ws, v = some (some (.ref a)) ∧ H a = some (.lst ws) ∧ H0 a = none ∧ ds.length ≤ 16777216 ∧ Reps H0 ws ds
def IsCell (env : NEnv) (σ : L2.St) (a : Addr) : Prop := ∃ i ds, cellD (getS env i) = some ds ∧ σ[i]? = some (some (.ref a))
structure Core (σ : L2.St) (env : NEnv) (H0 H : Hp) : Prop where
  sub : Ex H0 H
  len : σ.length = env.length
  im : ∀ i d, getS env i = .im d → ∃ x, σ[i]? = some (some x) ∧ Rep H0 x d
  cell : ∀ i ds, cellD (getS env i) = some ds → cellOk H0 H σ[i]? ds
  inj : ∀ i j a, cellD (getS env i) ≠ none → cellD (getS env j) ≠ none → σ[i]? = some (some (.ref a)) → σ[j]? = some (some (.ref a)) → i = j
structure Post (σ : L2.St) (env : NEnv) (H0 H : Hp) (σ' : L2.St) (env' : NEnv) (H0' H' : Hp) : Prop where
  core : Core σ' env' H0' H'
  e0 : Ex H0 H0'
  fr : ∀ b o, H b = some o → ¬ IsCell env σ b → H' b = some o
  tr : ∀ b, H' b = none → H b = none
  nw : ∀ b, H0' b ≠ none → H0 b ≠ none ∨ H b = none ∨ IsCell env σ b
  ic : ∀ a, IsCell env' σ' a → IsCell env σ a ∨ H a = none
  pb : ∀ i ds, getS env i = .bo ds → getS env' i = .bo ds ∧ σ'[i]? = σ[i]?
  pp : ∀ i ds, getS env i = .pm ds → (∃ ds', getS env' i = .pm ds') ∧ σ'[i]? = σ[i]?
section
variable {σ σ' σ2 : L2.St} {env env' env2 : NEnv} {H0 H H0' H' H02 H2 : Hp}
theorem Core.isc (c : Core σ env H0 H) {a : Addr} (h : IsCell env σ a) : ∃ ws, H a = some (.lst ws) ∧ H0 a = none := by
  obtain ⟨i, ds, h1, h2⟩ := h
  obtain ⟨b, ws, e, h3, h4, _⟩ := c.cell i ds h1
  rw [h2] at e
  cases e
  exact ⟨ws, h3, h4⟩
theorem Post.refl (c : Core σ env H0 H) : Post σ env H0 H σ env H0 H :=
  ⟨c, .refl _, fun _ _ h _ => h, fun _ h => h, fun _ h => .inl h, fun _ h => .inl h, fun _ _ h => ⟨h, rfl⟩, fun _ _ h => ⟨⟨_, h⟩, rfl⟩⟩
theorem Post.trans (a : Post σ env H0 H σ' env' H0' H') (b : Post σ' env' H0' H' σ2 env2 H02 H2) : Post σ env H0 H σ2 env2 H02 H2 := by
  have key : ∀ x, ∀ o, H x = some o → ¬ IsCell env σ x → ¬ IsCell env' σ' x := fun x o h n z => by
    rcases a.ic x z with q | q
    · exact n q
    · rw [h] at q; cases q
  refine ⟨b.core, a.e0.trans b.e0, fun x o h n => b.fr x o (a.fr x o h n) (key x o h n), fun x h => a.tr x (b.tr x h), fun x h => ?_, fun x h => ?_, fun i ds h => ?_, fun i ds h => ?_⟩
  · rcases b.nw x h with q | q | q
    · exact a.nw x q
    · exact .inr (.inl (a.tr x q))
    · rcases a.ic x q with q | q
      · exact .inr (.inr q)
      · exact .inr (.inl q)
  · rcases b.ic x h with q | q
    · exact a.ic x q
    · exact .inr (a.tr x q)
  · obtain ⟨h1, h2⟩ := a.pb i ds h
    obtain ⟨h3, h4⟩ := b.pb i ds h1
    exact ⟨h3, h4.trans h2⟩
  · obtain ⟨⟨d1, h1⟩, h2⟩ := a.pp i ds h
    obtain ⟨h3, h4⟩ := b.pp i d1 h1
    exact ⟨h3, h4.trans h2⟩
theorem Core.grow (c : Core σ env H0 H) (g : Grow H0 H H0' H') : Core σ env H0' H' := by
  refine ⟨g.sub, c.len, fun i d h => ?_, fun i ds h => ?_, c.inj⟩
  · obtain ⟨x, e, r⟩ := c.im i d h
    exact ⟨x, e, r.mono g.e0⟩
  · obtain ⟨a, ws, e, h1, h2, l, r⟩ := c.cell i ds h
    refine ⟨a, ws, e, g.e a _ h1, ?_, l, r.mono g.e0⟩
    cases q : H0' a with
    | none => rfl
    | some o =>
      rcases g.nw a (by rw [q]; exact fun z => nomatch z) with z | z
      · exact absurd h2 z
      · rw [h1] at z; cases z
theorem Post.grow (p : Post σ env H0 H σ' env' H0' H') (g : Grow H0' H' H02 H2) : Post σ env H0 H σ' env' H02 H2 := by
  refine ⟨p.core.grow g, p.e0.trans g.e0, fun b o h n => g.e b o (p.fr b o h n), fun b h => p.tr b (g.e.back h), fun b h => ?_, p.ic, p.pb, p.pp⟩
  rcases g.nw b h with q | q
  · exact p.nw b q
  · exact .inr (.inl (p.tr b q))

/-- an expression's value -/
def ResV (env' : NEnv) (σ' : L2.St) (H H0' H' : Hp) (v : V) : RV → Prop
  | .dat d => Rep H0' v d
  | .new ds => ∃ a ws, v = .ref a ∧ H a = none ∧ H0' a = none ∧ H' a = some (.lst ws) ∧ ds.length ≤ 16777216 ∧ Reps H0' ws ds ∧ ¬ IsCell env' σ' a
theorem ResV.of {v : V} {r : RV} (p : Post σ env H0 H σ' env' H0' H') (g : Grow H0' H' H02 H2) (h : ResR H' H02 H2 v r) : ResV env' σ' H H02 H2 v r := by
  cases r with
  | dat d => exact h
  | new ds =>
    obtain ⟨a, ws, e, h1, h2, h3, l, r⟩ := h
    refine ⟨a, ws, e, p.tr a h1, h2, h3, l, r, fun z => ?_⟩
    obtain ⟨us, q, _⟩ := p.core.isc z
    rw [h1] at q; cases q
theorem Post.freeze {v : V} {r : RV} (p : Post σ env H0 H σ' env' H0' H') (h : ResV env' σ' H H0' H' v r) : ∃ H02, Post σ env H0 H σ' env' H02 H' ∧ Ex H0' H02 ∧ Rep H02 v r.d := by
  cases r with
  | dat d => exact ⟨H0', p, .refl _, h⟩
  | new ds =>
    obtain ⟨a, ws, rfl, h1, h2, h3, l, r, n⟩ := h
    have x : Ex H0' (upd H0' a (.lst ws)) := .new h2
    have sub : Ex (upd H0' a (.lst ws)) H' := fun b o e => by
      by_cases hb : b = a
      · subst hb
        rw [upd_same] at e
        cases e
        exact h3
      · rw [upd_ne hb] at e
        exact p.core.sub b o e
    refine ⟨upd H0' a (.lst ws), ⟨⟨sub, p.core.len, fun i d h => ?_, fun i ds h => ?_, p.core.inj⟩, p.e0.trans x, p.fr, p.tr, fun b q => ?_, p.ic, p.pb, p.pp⟩, x, .lst (.inl upd_same) l (r.mono x)⟩
    · obtain ⟨y, e, q⟩ := p.core.im i d h
      exact ⟨y, e, q.mono x⟩
    · obtain ⟨b, us, e, q1, q2, l', q3⟩ := p.core.cell i ds h
      have hb : b ≠ a := fun z => n ⟨i, ds, h, by rw [← z]; exact e⟩
      exact ⟨b, us, e, q1, by rw [upd_ne hb]; exact q2, l', q3.mono x⟩
    · by_cases hb : b = a
      · subst hb
        exact .inr (.inl h1)
      · rw [upd_ne hb] at q
        exact p.nw b q

/-! ### readings -/
def den (ev : NEnv → Option (RV × NEnv)) : TE := fun σ H Q => ∃ env H0 r env', Core σ env H0 H ∧ ev env = some (r, env') ∧ ∀ v H' H0', Post σ env H0 H σ env' H0' H' → ResV env' σ H H0' H' v r → Q v H'
def denD (ev : NEnv → Option (RV × NEnv)) : TE := fun σ H Q => ∃ env H0 r env', Core σ env H0 H ∧ ev env = some (r, env') ∧ ∀ v H' H0', Post σ env H0 H σ env' H0' H' → Rep H0' v r.d → Q v H'
theorem denD_den {ev : NEnv → Option (RV × NEnv)} {Q : VK} (h : denD ev σ H Q) : den ev σ H Q := by
  obtain ⟨env, H0, r, env', c, e, k⟩ := h
  refine ⟨env, H0, r, env', c, e, fun v H' H0' p q => ?_⟩
  obtain ⟨H02, p2, _, q2⟩ := p.freeze q
  exact k v H' H02 p2 q2
def denI (ev : NEnv → Option (RV × NEnv)) (Q' : Int → Hp → Prop) (σ : L2.St) (H : Hp) : Prop := ∃ env H0 i env', Core σ env H0 H ∧ evI ev env = some (i, env') ∧ ∀ H' H0', Post σ env H0 H σ env' H0' H' → Q' i H'
theorem evI_some {ev : NEnv → Option (RV × NEnv)} {i : Int} (h : evI ev env = some (i, env')) : ev env = some (.dat (.int i), env') := by
  unfold evI at h
  split at h
  · rename_i e
    cases h
    exact e
  · cases h
theorem tst_some {ev : NEnv → Option (RV × NEnv)} {b : Bool} (h : tst ev env = some (b, env')) : ev env = some (.dat (.bool b), env') := by
  unfold tst at h
  split at h
  · rename_i e
    cases h
    exact e
  · cases h
/-- an int comes -/
theorem den_int {ev : NEnv → Option (RV × NEnv)} {i : Int} {Q : VK} (c : Core σ env H0 H) (h : evI ev env = some (i, env')) (k : ∀ H' H0', Post σ env H0 H σ env' H0' H' → Q (.int i) H') : den ev σ H Q :=
  ⟨env, H0, _, env', c, evI_some h, fun v H' H0' p q => by
    cases (show Rep H0' v (.int i) from q)
    exact k H' H0' p⟩
theorem den_bl {ev : NEnv → Option (RV × NEnv)} {b : Bool} {Q : VK} (c : Core σ env H0 H) (h : tst ev env = some (b, env')) (k : ∀ H' H0', Post σ env H0 H σ env' H0' H' → Q (.bl b) H') : den ev σ H Q :=
  ⟨env, H0, _, env', c, tst_some h, fun v H' H0' p q => by
    cases (show Rep H0' v (.bool b) from q)
    exact k H' H0' p⟩
def denT (ev : NEnv → Option (RV × NEnv)) : TT := fun σ H Q => ∃ env H0 b env', Core σ env H0 H ∧ tst ev env = some (b, env') ∧ ∀ H' H0', Post σ env H0 H σ env' H0' H' → Q b H'

def BVok (H0' : Hp) (σ : L2.St) (v : V) : BV → Prop
  | .val d => Rep H0' v d
  | .slot i => σ[i]? = some (some v)
theorem BVok.mono {v : V} {b : BV} (h : BVok H0 σ v b) (e : Ex H0 H0') : BVok H0' σ v b := by
  cases b with
  | val d => exact Rep.mono e _ _ h
  | slot i => exact h
theorem cellD_slD {s : Sl} {ds : List D} (h : cellD s = some ds) : slD s = some (.list ds) := by
  cases s <;> cases h <;> rfl
theorem Core.res {v : V} {b : BV} {d : D} (c : Core σ env H0 H) (h : BVok H0 σ v b) (e : resB env b = some d) : OpV H0 H v d := by
  cases b with
  | val d' =>
    cases e
    exact Rep.op h c.sub
  | slot i =>
    have e : slD (getS env i) = some d := e
    have h : σ[i]? = some (some v) := h
    cases q : getS env i with
    | un => rw [q] at e; cases e
    | im d' =>
      rw [q] at e
      cases e
      obtain ⟨x, h1, h2⟩ := c.im i _ q
      rw [h] at h1
      cases h1
      exact h2.op c.sub
    | mu ds =>
      rw [q] at e
      cases e
      obtain ⟨a, ws, h1, h2, h3, l, r⟩ := c.cell i ds (by rw [q]; rfl)
      rw [h] at h1
      cases h1
      exact ⟨a, ws, rfl, .inl h2, l, r⟩
    | pm ds =>
      rw [q] at e
      cases e
      obtain ⟨a, ws, h1, h2, h3, l, r⟩ := c.cell i ds (by rw [q]; rfl)
      rw [h] at h1
      cases h1
      exact ⟨a, ws, rfl, .inl h2, l, r⟩
    | bo ds =>
      rw [q] at e
      cases e
      obtain ⟨a, ws, h1, h2, h3, l, r⟩ := c.cell i ds (by rw [q]; rfl)
      rw [h] at h1
      cases h1
      exact ⟨a, ws, rfl, .inl h2, l, r⟩
def denB (e : E) (ev : NEnv → Option (RV × NEnv)) : TE := fun σ H Q => ∃ env H0 b env', Core σ env H0 H ∧ evB ev e env = some (b, env') ∧ ∀ v H' H0', Post σ env H0 H σ env' H0' H' → BVok H0' σ v b → Q v H'
end

/-! ### slots that change -/
theorem getS_set_same {env : NEnv} {i : Nat} {s : Sl} (h : i < env.length) : getS (env.set i s) i = s := by
  unfold getS
  rw [List.getElem?_set_self h]
  rfl
theorem getS_set_ne {env : NEnv} {i j : Nat} {s : Sl} (h : i ≠ j) : getS (env.set i s) j = getS env j := by
  unfold getS
  rw [List.getElem?_set_ne h]
theorem getS_lt {env : NEnv} {i : Nat} (h : getS env i ≠ .un) : i < env.length := by
  unfold getS at h
  by_cases q : i < env.length
  · exact q
  · rw [List.getElem?_eq_none (by omega)] at h
    exact absurd rfl h
theorem cell_lt {env : NEnv} {i : Nat} {ds : List D} (h : cellD (getS env i) = some ds) : i < env.length := getS_lt fun e => by rw [e] at h; cases h
section
variable {σ σ' σ2 : L2.St} {env env' env2 : NEnv} {H0 H H0' H' H02 H2 : Hp}
/-- a slot's list becomes frozen: nothing on the heap -/
theorem Core.frz {i : Nat} {ds : List D} (c : Core σ env H0 H) (h : getS env i = .mu ds) : ∃ (a : Addr) (H0' : Hp), σ[i]? = some (some (.ref a)) ∧ Post σ env H0 H σ (env.set i (.im (.list ds))) H0' H ∧ Rep H0' (.ref a) (.list ds) := by
  have hc : cellD (getS env i) = some ds := by rw [h]; rfl
  obtain ⟨a, ws, e, h1, h2, l, r⟩ := c.cell i ds hc
  have hi := cell_lt hc
  have x : Ex H0 (upd H0 a (.lst ws)) := .new h2
  have rep : Rep (upd H0 a (.lst ws)) (.ref a) (.list ds) := .lst (.inl upd_same) l (r.mono x)
  refine ⟨a, upd H0 a (.lst ws), e, ⟨⟨fun b o q => ?_, by rw [List.length_set]; exact c.len, fun j d q => ?_, fun j ds' q => ?_, fun j k b q1 q2 q3 q4 => ?_⟩, x, fun _ _ q _ => q, fun _ q => q, fun b q => ?_, fun b q => ?_, fun j d q => ?_, fun j d q => ?_⟩, rep⟩
  · by_cases hb : b = a
    · subst hb
      rw [upd_same] at q
      cases q
      exact h1
    · rw [upd_ne hb] at q
      exact c.sub b o q
  · by_cases hj : i = j
    · subst hj
      rw [getS_set_same hi] at q
      cases q
      exact ⟨_, e, rep⟩
    · rw [getS_set_ne hj] at q
      obtain ⟨y, q1, q2⟩ := c.im j d q
      exact ⟨y, q1, q2.mono x⟩
  · by_cases hj : i = j
    · subst hj
      rw [getS_set_same hi] at q
      cases q
    · rw [getS_set_ne hj] at q
      obtain ⟨b, us, q1, q2, q3, l', q4⟩ := c.cell j ds' q
      have hb : b ≠ a := fun z => hj (c.inj i j a (by rw [hc]; exact fun z => nomatch z) (by rw [q]; exact fun z => nomatch z) e (by rw [q1, z]))
      exact ⟨b, us, q1, q2, by rw [upd_ne hb]; exact q3, l', q4.mono x⟩
  · have hj : i ≠ j := fun z => by
      subst z
      rw [getS_set_same hi] at q1
      exact q1 rfl
    have hk : i ≠ k := fun z => by
      subst z
      rw [getS_set_same hi] at q2
      exact q2 rfl
    rw [getS_set_ne hj] at q1
    rw [getS_set_ne hk] at q2
    exact c.inj j k b q1 q2 q3 q4
  · by_cases hb : b = a
    · subst hb
      exact .inr (.inr ⟨i, ds, hc, e⟩)
    · rw [upd_ne hb] at q
      exact .inl q
  · obtain ⟨j, d, q1, q2⟩ := q
    have hj : i ≠ j := fun z => by
      subst z
      rw [getS_set_same hi] at q1
      cases q1
    rw [getS_set_ne hj] at q1
    exact .inl ⟨j, d, q1, q2⟩
  · have hj : i ≠ j := fun z => by
      subst z
      rw [h] at q
      cases q
    exact ⟨by rw [getS_set_ne hj]; exact q, rfl⟩
  · have hj : i ≠ j := fun z => by
      subst z
      rw [h] at q
      cases q
    exact ⟨⟨_, by rw [getS_set_ne hj]; exact q⟩, rfl⟩
def sameK (s s' : Sl) : Prop := match s, s' with
  | .mu _, .mu _ => True
  | .pm _, .pm _ => True
  | _, _ => False
theorem sameK.d {s s' : Sl} (h : sameK s s') : ∃ ds ds', cellD s = some ds ∧ cellD s' = some ds' := by
  cases s <;> cases s' <;> first | exact h.elim | exact ⟨_, _, rfl, rfl⟩
/-- a slot's list is changed -/
theorem Core.mut {i : Nat} {s' : Sl} {ds : List D} {a : Addr} {ws : List V} (c : Core σ env H0 H) (k : sameK (getS env i) s') (hd : cellD s' = some ds) (e : σ[i]? = some (some (.ref a))) (l : ds.length ≤ 16777216) (r : Reps H0 ws ds) :
    Post σ env H0 H σ (env.set i s') H0 (upd H a (.lst ws)) := by
  obtain ⟨ds0, ds1, hc, hd'⟩ := k.d
  rw [hd] at hd'
  cases hd'
  obtain ⟨b, us, e', h1, h2, l0, r0⟩ := c.cell i ds0 hc
  rw [e] at e'
  cases e'
  have hi := cell_lt hc
  have cell : IsCell env σ a := ⟨i, ds0, hc, e⟩
  have other : ∀ j ds', i ≠ j → cellD (getS env j) = some ds' → σ[j]? ≠ some (some (.ref a)) := fun j ds' hj q z => hj (c.inj i j a (by rw [hc]; exact fun z => nomatch z) (by rw [q]; exact fun z => nomatch z) e z)
  refine ⟨⟨fun b o q => ?_, by rw [List.length_set]; exact c.len, fun j d q => ?_, fun j ds' q => ?_, fun j k b q1 q2 q3 q4 => ?_⟩, .refl _, fun b o q n => ?_, fun b q => ?_, fun b q => .inl q, fun b q => ?_, fun j d q => ?_, fun j d q => ?_⟩
  · have hb : b ≠ a := fun z => by subst z; rw [h2] at q; cases q
    rw [upd_ne hb]
    exact c.sub b o q
  · have hj : i ≠ j := fun z => by
      subst z
      rw [getS_set_same hi] at q
      rw [q] at hd
      cases hd
    rw [getS_set_ne hj] at q
    exact c.im j d q
  · by_cases hj : i = j
    · subst hj
      rw [getS_set_same hi] at q
      rw [hd] at q
      cases q
      exact ⟨a, ws, e, upd_same, h2, l, r⟩
    · rw [getS_set_ne hj] at q
      obtain ⟨b, us, q1, q2, q3, l', q4⟩ := c.cell j ds' q
      have hb : b ≠ a := fun z => other j ds' hj q (by rw [q1, z])
      exact ⟨b, us, q1, by rw [upd_ne hb]; exact q2, q3, l', q4⟩
  · have back : ∀ m, cellD (getS (env.set i s') m) ≠ none → cellD (getS env m) ≠ none := fun m q => by
      by_cases hm : i = m
      · subst hm
        rw [hc]
        exact fun z => nomatch z
      · rw [getS_set_ne hm] at q
        exact q
    exact c.inj j k b (back j q1) (back k q2) q3 q4
  · have hb : b ≠ a := fun z => by subst z; exact n cell
    rw [upd_ne hb]
    exact q
  · by_cases hb : b = a
    · subst hb
      rw [upd_same] at q
      cases q
    · rw [upd_ne hb] at q
      exact q
  · obtain ⟨j, d, q1, q2⟩ := q
    by_cases hj : i = j
    · subst hj
      exact .inl ⟨i, ds0, hc, q2⟩
    · rw [getS_set_ne hj] at q1
      exact .inl ⟨j, d, q1, q2⟩
  · have hj : i ≠ j := fun z => by
      subst z
      rw [q] at k
      cases s' <;> exact k.elim
    exact ⟨by rw [getS_set_ne hj]; exact q, rfl⟩
  · by_cases hj : i = j
    · subst hj
      rw [q] at k
      cases s' with
      | pm ds' => exact ⟨⟨ds', getS_set_same hi⟩, rfl⟩
      | un => exact k.elim
      | im _ => exact k.elim
      | mu _ => exact k.elim
      | bo _ => exact k.elim
    · exact ⟨⟨_, by rw [getS_set_ne hj]; exact q⟩, rfl⟩
end
end NG

/-! NG6: the readings of the small language imply the hand layer's readings. -/
namespace NG
open PySem L2

section
variable {X : Cx} {e : Expr}
theorem peI {t t' : TE} (h : PE X e t) (k : ∀ σ H Q, t' σ H Q → t σ H Q) : PE X e t' := ⟨fun pins s σ H Q I w => h.run pins s σ H Q I (k σ H Q w)⟩
theorem ptI {t t' : TT} (h : PT X e t) (k : ∀ σ H Q, t' σ H Q → t σ H Q) : PT X e t' := ⟨fun pins s σ H Q I w => h.run pins s σ H Q I (k σ H Q w)⟩
theorem pwI {t t' : TT} (h : PW X e t) (k : ∀ σ H Q, t' σ H Q → t σ H Q) : PW X e t' := ⟨fun wh pins s σ H Q I w => h.run wh pins s σ H Q I (k σ H Q w)⟩
theorem paI {es : List Expr} {t t' : TA} (h : PA X es t) (k : ∀ σ H Q, t' σ H Q → t σ H Q) : PA X es t' := ⟨fun pos pins s σ H Q I w => h.run pos pins s σ H Q I (k σ H Q w)⟩
theorem poI {o : Option Expr} {t t' : TO} (h : PO X o t) (k : ∀ σ H Q, t' σ H Q → t σ H Q) : PO X o t' := ⟨fun pins s σ H Q I w => h.run pins s σ H Q I (k σ H Q w)⟩
theorem piI {tg : Expr} {t t' : TI} (h : PI X tg e t) (k : ∀ σ H R, t' σ H R → t σ H R) : PI X tg e t' := ⟨fun pins s σ H R I w => h.run pins s σ H R I (k σ H R w)⟩
theorem ptsI {es : List Expr} {t t' : TT} (h : PTs X es t) (k : ∀ σ H Q, t' σ H Q → t σ H Q) : PTs X es t' := ⟨fun pins s σ H Q I w => h.run pins s σ H Q I (k σ H Q w)⟩
theorem pgI {t t' : TG} (h : PG X e t) (k : ∀ v σ H Q, t' v σ H Q → t v σ H Q) : PG X e t' := ⟨fun pins s σ H v u Q I r w => h.run pins s σ H v u Q I r (k v σ H Q w)⟩
theorem pgsI {es : List Expr} {t t' : TGs} (h : PGs X es t) (k : ∀ v σ H Q, t' v σ H Q → t v σ H Q) : PGs X es t' := ⟨fun pins s σ H v u Q I r w => h.run pins s σ H v u Q I r (k v σ H Q w)⟩
theorem psI {st : Stmt} {t t' : TS} (h : PS X st t) (k : ∀ D σ H, t' D σ H → t D σ H) : PS X st t' := ⟨fun pins s σ H D I w => h.run pins s σ H D I (k D σ H w)⟩
theorem pssI {st : List Stmt} {t t' : TS} (h : PSs X st t) (k : ∀ D σ H, t' D σ H → t D σ H) : PSs X st t' := ⟨fun pins s σ H D I w => h.run pins s σ H D I (k D σ H w)⟩
end

section
variable {σ : L2.St} {H : Hp} {Q : VK} {cl : CL}
theorem i_var {i : Nat} (h : den (evalE cl (.var i)) σ H Q) : tVar i σ H Q := by
  obtain ⟨env, H0, r, env', c, ev, k⟩ := h
  have ev : evVar i env = some (r, env') := by rw [evalE] at ev; exact ev
  unfold evVar at ev
  split at ev
  · rename_i d hd
    cases ev
    obtain ⟨x, h1, h2⟩ := c.im i d hd
    exact ⟨x, h1, k x H H0 (.refl c) h2⟩
  · rename_i ds hd
    cases ev
    obtain ⟨a, H0', h1, p, h2⟩ := c.frz hd
    exact ⟨_, h1, k _ H H0' p h2⟩
  · cases ev
theorem i_varB {i : Nat} {ev : NEnv → Option (RV × NEnv)} (h : denB (.var i) ev σ H Q) : tVar i σ H Q := by
  obtain ⟨env, H0, r, env', c, e, k⟩ := h
  have e : (match getS env i with
    | .im d => some (BV.val d, env)
    | .mu _ => some (.slot i, env)
    | .pm _ => some (.slot i, env)
    | .bo _ => some (.slot i, env)
    | .un => none) = some (r, env') := e
  cases q : getS env i with
  | un => rw [q] at e; cases e
  | im d =>
    rw [q] at e
    cases e
    obtain ⟨x, h1, h2⟩ := c.im i d q
    exact ⟨x, h1, k x H H0 (.refl c) h2⟩
  | mu ds =>
    rw [q] at e
    cases e
    obtain ⟨a, ws, h1, _⟩ := c.cell i ds (by rw [q]; rfl)
    exact ⟨_, h1, k _ H H0 (.refl c) h1⟩
  | pm ds =>
    rw [q] at e
    cases e
    obtain ⟨a, ws, h1, _⟩ := c.cell i ds (by rw [q]; rfl)
    exact ⟨_, h1, k _ H H0 (.refl c) h1⟩
  | bo ds =>
    rw [q] at e
    cases e
    obtain ⟨a, ws, h1, _⟩ := c.cell i ds (by rw [q]; rfl)
    exact ⟨_, h1, k _ H H0 (.refl c) h1⟩
theorem evB_of {e : E} {ev : NEnv → Option (RV × NEnv)} {env env' : NEnv} {b : BV} (h : evB ev e env = some (b, env')) (he : ∀ i, e ≠ .var i) : ∃ r, ev env = some (r, env') ∧ b = .val r.d := by
  unfold evB at h
  split at h
  · exact absurd rfl (he _)
  · split at h
    · rename_i q
      cases h
      exact ⟨_, q, rfl⟩
    · cases h
theorem i_B {e : E} {ev : NEnv → Option (RV × NEnv)} (he : ∀ i, e ≠ .var i) (h : denB e ev σ H Q) : den ev σ H Q := by
  obtain ⟨env, H0, b, env', c, q, k⟩ := h
  obtain ⟨r, h1, rfl⟩ := evB_of q he
  exact denD_den ⟨env, H0, r, env', c, h1, fun v H' H0' p q => k v H' H0' p q⟩
/-- an operator between two operands -/
theorem i_op {o : Op} {a b : E} (h : den (evalE cl (.bin o a b)) σ H Q) : tOp (rOp o) (denB a (evalE cl a)) (denB b (evalE cl b)) σ H Q := by
  obtain ⟨env, H0, r, env', c, ev, k⟩ := h
  rw [evalE] at ev
  split at ev
  · rename_i x e1 h1
    split at ev
    · rename_i y e2 h2
      unfold opB at ev
      split at ev
      · rename_i dx dy rx ry
        obtain ⟨rv, ho, q⟩ := map_some ev
        cases q
        refine ⟨env, H0, x, e1, c, h1, fun v1 H1 H01 p1 b1 => ⟨e1, H01, y, env', p1.core, h2, fun v2 H2 H02 p2 b2 => ?_⟩⟩
        exact ⟨H02, dx, dy, _, p2.core.sub, p2.core.res (b1.mono p2.e0) rx, p2.core.res b2 ry, ho, fun v H0' H' g q => k v H' H0' ((p1.trans p2).grow g) (ResV.of (p1.trans p2) g q)⟩
      · cases ev
    · cases ev
  · cases ev
theorem i_chain {o o' : Op} {a b c : E} (h : den (evalE cl (.chain o o' a b c)) σ H Q) : tChain (rOp o) (rOp o') (denB a (evalE cl a)) (denB b (evalE cl b)) (denB c (evalE cl c)) σ H Q := by
  obtain ⟨env, H0, r, env', C, ev, k⟩ := h
  rw [evalE] at ev
  split at ev
  · rename_i x e1 h1
    split at ev
    · rename_i y e2 h2
      have step : ∀ (b0 : Bool) (e3 : NEnv), opB o e2 x y = some (.dat (.bool b0), e3) → e3 = e2 ∧ ∃ dx dy, resB e2 x = some dx ∧ resB e2 y = some dy ∧ op2 o dx dy = some (.dat (.bool b0)) := fun b0 e3 q => by
        unfold opB at q
        split at q
        · rename_i dx dy rx ry
          obtain ⟨rv, ho, q⟩ := map_some q
          cases q
          exact ⟨rfl, dx, dy, rx, ry, ho⟩
        · cases q
      split at ev
      · rename_i e3 hop
        obtain ⟨rfl, dx, dy, rx, ry, ho⟩ := step _ _ hop
        split at ev
        · rename_i z e4 h3
          split at ev
          · rename_i kb e5 hop2
            cases ev
            unfold opB at hop2
            split at hop2
            · rename_i dy' dz ry' rz
              obtain ⟨rv, ho2, q⟩ := map_some hop2
              cases q
              refine ⟨env, H0, x, e1, C, h1, fun v1 H1 H01 p1 b1 => ⟨e1, H01, y, _, p1.core, h2, fun v2 H2 H02 p2 b2 => ?_⟩⟩
              refine ⟨H02, dx, dy, _, p2.core.sub, p2.core.res (b1.mono p2.e0) rx, p2.core.res b2 ry, ho, fun v H0' H' g q => ?_⟩
              cases (show Rep H0' v (.bool true) from q)
              have pg := p2.grow g
              refine ⟨true, rfl, ?_⟩
              rw [if_pos rfl]
              refine ⟨_, H0', z, _, pg.core, h3, fun v3 H3 H03 p3 b3 => ?_⟩
              exact ⟨H03, dy', dz, _, p3.core.sub, p3.core.res ((b2.mono g.e0).mono p3.e0) ry', p3.core.res b3 rz, ho2, fun v H0' H' g q => k v H' H0' (((p1.trans pg).trans p3).grow g) (ResV.of ((p1.trans pg).trans p3) g q)⟩
            · cases hop2
          · cases ev
        · cases ev
      · rename_i e3 hop
        cases ev
        obtain ⟨rfl, dx, dy, rx, ry, ho⟩ := step _ _ hop
        refine ⟨env, H0, x, e1, C, h1, fun v1 H1 H01 p1 b1 => ⟨e1, H01, y, _, p1.core, h2, fun v2 H2 H02 p2 b2 => ?_⟩⟩
        refine ⟨H02, dx, dy, _, p2.core.sub, p2.core.res (b1.mono p2.e0) rx, p2.core.res b2 ry, ho, fun v H0' H' g q => ?_⟩
        cases (show Rep H0' v (.bool false) from q)
        refine ⟨false, rfl, ?_⟩
        rw [if_neg Bool.false_ne_true]
        exact k _ H' H0' ((p1.trans p2).grow g) (.bl false)
      · cases ev
    · cases ev
  · cases ev
theorem i_neg {a : E} (h : den (evalE cl (.neg a)) σ H Q) : tUn (rU fun i => .int (-i)) (den (evalE cl a)) σ H Q := by
  obtain ⟨env, H0, r, env', c, ev, k⟩ := h
  rw [evalE] at ev
  split at ev
  · rename_i i e1 h1
    cases ev
    exact den_int c h1 fun H' H0' p => ⟨i, rfl, k _ H' H0' p (.int _)⟩
  · cases ev
theorem i_not {a : E} (h : den (evalE cl (.not a)) σ H Q) : tNotV (den (evalE cl a)) σ H Q := by
  obtain ⟨env, H0, r, env', c, ev, k⟩ := h
  rw [evalE] at ev
  split at ev
  · rename_i b e1 h1
    cases ev
    exact den_bl c h1 fun H' H0' p => ⟨b, rfl, k _ H' H0' p (.bl _)⟩
  · cases ev
theorem i_and {a b : E} (h : den (evalE cl (.and a b)) σ H Q) : tAndV (den (evalE cl a)) (den (evalE cl b)) σ H Q := by
  obtain ⟨env, H0, r, env', c, ev, k⟩ := h
  rw [evalE] at ev
  unfold andE at ev
  split at ev
  · rename_i e1 h1
    split at ev
    · rename_i kb e2 h2
      cases ev
      refine den_bl c h1 fun H' H0' p => ⟨true, rfl, ?_⟩
      refine iteT ?_
      exact den_bl p.core h2 fun H2 H02 p2 => k _ H2 H02 (p.trans p2) (.bl _)
    · cases ev
  · rename_i e1 h1
    cases ev
    refine den_bl c h1 fun H' H0' p => ⟨false, rfl, ?_⟩
    refine iteF ?_
    exact k _ H' H0' p (.bl _)
  · cases ev
theorem i_or {a b : E} (h : den (evalE cl (.or a b)) σ H Q) : tOrV (den (evalE cl a)) (den (evalE cl b)) σ H Q := by
  obtain ⟨env, H0, r, env', c, ev, k⟩ := h
  rw [evalE] at ev
  unfold orE at ev
  split at ev
  · rename_i e1 h1
    cases ev
    refine den_bl c h1 fun H' H0' p => ⟨true, rfl, ?_⟩
    refine iteT ?_
    exact k _ H' H0' p (.bl _)
  · rename_i e1 h1
    split at ev
    · rename_i kb e2 h2
      cases ev
      refine den_bl c h1 fun H' H0' p => ⟨false, rfl, ?_⟩
      refine iteF ?_
      exact den_bl p.core h2 fun H2 H02 p2 => k _ H2 H02 (p.trans p2) (.bl _)
    · cases ev
  · cases ev
/-! tests -/
theorem tst_of {a : NEnv → Option (RV × NEnv)} {env env' : NEnv} {b : Bool} (h : a env = some (.dat (.bool b), env')) : tst a env = some (b, env') := by
  unfold tst
  rw [h]
theorem t_val {Q : Bool → Hp → Prop} {ev : NEnv → Option (RV × NEnv)} (h : denT ev σ H Q) : tB (den ev) σ H Q := by
  obtain ⟨env, H0, b, env', c, e, k⟩ := h
  exact den_bl c e fun H' H0' p => ⟨b, rfl, k H' H0' p⟩
theorem t_den {Q : Bool → Hp → Prop} {ev : NEnv → Option (RV × NEnv)} (h : denT ev σ H Q) : den ev σ H fun x H' => ∃ k, x = .bl k ∧ Q k H' := by
  obtain ⟨env, H0, b, env', c, e, k⟩ := h
  exact den_bl c e fun H' H0' p => ⟨b, rfl, k H' H0' p⟩
theorem t_not {Q : Bool → Hp → Prop} {a : E} (h : denT (evalE cl (.not a)) σ H Q) : tNot (denT (evalE cl a)) σ H Q := by
  obtain ⟨env, H0, b, env', c, e, k⟩ := h
  have e := tst_some e
  rw [evalE] at e
  split at e
  · rename_i b' e1 h1
    cases e
    exact ⟨env, H0, b', _, c, h1, fun H' H0' p => k H' H0' p⟩
  · cases e
theorem t_and {Q : Bool → Hp → Prop} {a b : E} (h : denT (evalE cl (.and a b)) σ H Q) : tAnd (denT (evalE cl a)) (denT (evalE cl b)) σ H Q := by
  obtain ⟨env, H0, r, env', c, ev, k⟩ := h
  have ev := tst_some ev
  rw [evalE] at ev
  unfold andE at ev
  split at ev
  · rename_i e1 h1
    split at ev
    · rename_i kb e2 h2
      cases ev
      refine ⟨env, H0, true, e1, c, h1, fun H' H0' p => ?_⟩
      refine iteT ?_
      exact ⟨e1, H0', _, _, p.core, h2, fun H2 H02 p2 => k H2 H02 (p.trans p2)⟩
    · cases ev
  · rename_i e1 h1
    cases ev
    refine ⟨env, H0, false, _, c, h1, fun H' H0' p => ?_⟩
    refine iteF ?_
    exact k H' H0' p
  · cases ev
theorem t_or {Q : Bool → Hp → Prop} {a b : E} (h : denT (evalE cl (.or a b)) σ H Q) : tOr (denT (evalE cl a)) (denT (evalE cl b)) σ H Q := by
  obtain ⟨env, H0, r, env', c, ev, k⟩ := h
  have ev := tst_some ev
  rw [evalE] at ev
  unfold orE at ev
  split at ev
  · rename_i e1 h1
    cases ev
    refine ⟨env, H0, true, _, c, h1, fun H' H0' p => ?_⟩
    refine iteT ?_
    exact k H' H0' p
  · rename_i e1 h1
    split at ev
    · rename_i kb e2 h2
      cases ev
      refine ⟨env, H0, false, e1, c, h1, fun H' H0' p => ?_⟩
      refine iteF ?_
      exact ⟨e1, H0', _, _, p.core, h2, fun H2 H02 p2 => k H2 H02 (p.trans p2)⟩
    · cases ev
  · cases ev
theorem i_ite {c a b : E} (h : den (evalE cl (.ite c a b)) σ H Q) : tIf (denT (evalE cl c)) (den (evalE cl a)) (den (evalE cl b)) σ H Q := by
  obtain ⟨env, H0, r, env', C, ev, k⟩ := h
  rw [evalE] at ev
  have res : ∀ {env1 : NEnv} {H1 H01 H2 H02 : Hp} {v : V}, Post σ env H0 H σ env1 H01 H1 → ResV env' σ H1 H02 H2 v r → ResV env' σ H H02 H2 v r := fun {env1 H1 H01 H2 H02 v} p q => by
    cases r with
    | dat d => exact q
    | new ds =>
      obtain ⟨a, ws, e, h1, h2⟩ := q
      exact ⟨a, ws, e, p.tr a h1, h2⟩
  split at ev
  · rename_i e1 h1
    refine ⟨env, H0, true, e1, C, h1, fun H' H0' p => ?_⟩
    refine iteT ?_
    exact ⟨e1, H0', r, env', p.core, ev, fun v H2 H02 p2 q => k v H2 H02 (p.trans p2) (res p q)⟩
  · rename_i e1 h1
    refine ⟨env, H0, false, e1, C, h1, fun H' H0' p => ?_⟩
    refine iteF ?_
    exact ⟨e1, H0', r, env', p.core, ev, fun v H2 H02 p2 q => k v H2 H02 (p.trans p2) (res p q)⟩
  · cases ev
theorem ResV.back {env env1 env' : NEnv} {r : RV} {H0 H1 H01 H2 H02 : Hp} {v : V} (p : Post σ env H0 H σ env1 H01 H1) (q : ResV env' σ H1 H02 H2 v r) : ResV env' σ H H02 H2 v r := by
  cases r with
  | dat d => exact q
  | new ds =>
    obtain ⟨a, ws, e, h1, h2⟩ := q
    exact ⟨a, ws, e, p.tr a h1, h2⟩

/-! displays -/
def denEs (ev : NEnv → Option (List D × NEnv)) : TA := fun σ H Q => ∃ env H0 ds env', Core σ env H0 H ∧ ev env = some (ds, env') ∧ ∀ vs H' H0', Post σ env H0 H σ env' H0' H' → Reps H0' vs ds → Q vs H'
theorem a_nil {Q : List V → Hp → Prop} (h : denEs (evalEs cl .nil) σ H Q) : tNil σ H Q := by
  obtain ⟨env, H0, ds, env', c, ev, k⟩ := h
  rw [evalEs] at ev
  cases ev
  exact k [] H H0 (.refl c) .nil
theorem a_cons {e : E} {es : Es} {Q : List V → Hp → Prop} (h : denEs (evalEs cl (.cons e es)) σ H Q) : tCons (denD (evalE cl e)) (denEs (evalEs cl es)) σ H Q := by
  obtain ⟨env, H0, ds, env', c, ev, k⟩ := h
  rw [evalEs] at ev
  split at ev
  · rename_i r e1 h1
    split at ev
    · rename_i ds' e2 h2
      cases ev
      exact ⟨env, H0, r, e1, c, h1, fun v H1 H01 p1 q1 => ⟨e1, H01, ds', _, p1.core, h2, fun vs H2 H02 p2 q2 => k _ H2 H02 (p1.trans p2) (.cons (q1.mono p2.e0) q2)⟩⟩
    · cases ev
  · cases ev
theorem i_tup {es : Es} (h : den (evalE cl (.tup es)) σ H Q) : tTup (denEs (evalEs cl es)) σ H Q := by
  obtain ⟨env, H0, r, env', c, ev, k⟩ := h
  rw [evalE] at ev
  split at ev
  · rename_i ds e1 h1
    split at ev
    · rename_i hl
      cases ev
      refine ⟨env, H0, ds, _, c, h1, fun vs H' H0' p q => ⟨by rw [line_eq, q.len]; exact hl, fun a ha => ?_⟩⟩
      have g : Grow H0' H' (upd H0' a (.tup vs)) (upd H' a (.tup vs)) := .tup p.core.sub ha
      exact k _ _ _ (p.grow g) (.tup (.inl upd_same) hl (q.mono g.e0))
    · cases ev
  · cases ev
theorem i_lst {es : Es} (h : den (evalE cl (.lst es)) σ H Q) : tLst (denEs (evalEs cl es)) σ H Q := by
  obtain ⟨env, H0, r, env', c, ev, k⟩ := h
  rw [evalE] at ev
  split at ev
  · rename_i ds e1 h1
    split at ev
    · rename_i hl
      cases ev
      refine ⟨env, H0, ds, _, c, h1, fun vs H' H0' p q => ⟨by rw [line_eq, q.len]; exact hl, fun a ha => ?_⟩⟩
      have g : Grow H0' H' H0' (upd H' a (.lst vs)) := .new p.core.sub ha
      exact k _ _ _ (p.grow g) (ResV.of p g ⟨a, vs, rfl, ha, p.core.sub.back ha, upd_same, hl, q⟩)
    · cases ev
  · cases ev

/-! builtins -/
theorem i_b1 {b : Bi} {a : E} (h : den (evalE cl (.bi b (.cons a .nil))) σ H Q) : tCB (rB1 b) (tCons (denB a (evalE cl a)) tNil) σ H Q := by
  obtain ⟨env, H0, r, env', c, ev, k⟩ := h
  rw [evalE] at ev
  split at ev
  · rename_i x e1 h1
    split at ev
    · rename_i d hd
      obtain ⟨rv, ho, q⟩ := map_some ev
      cases q
      exact ⟨env, H0, x, _, c, h1, fun v H1 H01 p1 b1 => ⟨H01, v, d, _, rfl, p1.core.sub, p1.core.res b1 hd, ho, fun v H0' H' g q => k v H' H0' (p1.grow g) (ResV.of p1 g q)⟩⟩
    · cases ev
  · cases ev
theorem i_sset {a : E} (h : den (evalE cl (.sset a)) σ H Q) : tSSet (denB a (evalE cl a)) σ H Q := by
  obtain ⟨env, H0, r, env', c, ev, k⟩ := h
  rw [evalE] at ev
  split at ev
  · rename_i x e1 h1
    split at ev
    · rename_i d hd
      obtain ⟨rv, ho, q⟩ := map_some ev
      cases q
      exact ⟨env, H0, x, _, c, h1, fun v H1 H01 p1 b1 => ⟨H01, d, _, p1.core.sub, p1.core.res b1 hd, ho, fun v H0' H' g q => k v H' H0' (p1.grow g) (ResV.of p1 g q)⟩⟩
    · cases ev
  · cases ev
theorem i_b2 {b : Bi} {a c : E} (h : den (evalE cl (.bi b (.cons a (.cons c .nil)))) σ H Q) : tCB (rB2 b) (tCons (denB a (evalE cl a)) (tCons (denB c (evalE cl c)) tNil)) σ H Q := by
  obtain ⟨env, H0, r, env', C, ev, k⟩ := h
  rw [evalE] at ev
  split at ev
  · rename_i x e1 h1
    split at ev
    · rename_i y e2 h2
      split at ev
      · rename_i d d' hd hd'
        obtain ⟨rv, ho, q⟩ := map_some ev
        cases q
        exact ⟨env, H0, x, e1, C, h1, fun v H1 H01 p1 b1 => ⟨e1, H01, y, _, p1.core, h2, fun u H2 H02 p2 b2 => ⟨H02, v, u, d, d', _, rfl, p2.core.sub, p2.core.res (b1.mono p2.e0) hd, p2.core.res b2 hd', ho,
          fun v H0' H' g q => k v H' H0' ((p1.trans p2).grow g) (ResV.of (p1.trans p2) g q)⟩⟩⟩
      · cases ev
    · cases ev
  · cases ev
theorem i_isi {a : E} {t : Ty} (h : den (evalE cl (.isi a t)) σ H Q) : tCB (rIs t) (tCons (denB a (evalE cl a)) (tCons (tC (.ty (tyS t))) tNil)) σ H Q := by
  obtain ⟨env, H0, r, env', c, ev, k⟩ := h
  rw [evalE] at ev
  split at ev
  · rename_i x e1 h1
    split at ev
    · rename_i d hd
      obtain ⟨b, ho, q⟩ := map_some ev
      cases q
      exact ⟨env, H0, x, _, c, h1, fun v H1 H01 p1 b1 => ⟨H01, v, d, b, rfl, p1.core.sub, p1.core.res b1 hd, ho, k _ H1 H01 p1 (.bl _)⟩⟩
    · cases ev
  · cases ev

/-! slices -/
def denO (ev : NEnv → Option (Option Int × NEnv)) : TO := fun σ H Q => ∃ env H0 o env', Core σ env H0 H ∧ ev env = some (o, env') ∧ ∀ H' H0', Post σ env H0 H σ env' H0' H' → Q o H'
theorem o_none {Q : Option Int → Hp → Prop} (h : denO (evalO cl .none) σ H Q) : tNoPart σ H Q := by
  obtain ⟨env, H0, o, env', c, ev, k⟩ := h
  rw [evalO] at ev
  cases ev
  exact k H H0 (.refl c)
theorem o_some {a : E} {Q : Option Int → Hp → Prop} (h : denO (evalO cl (.some a)) σ H Q) : tPart (den (evalE cl a)) σ H Q := by
  obtain ⟨env, H0, o, env', c, ev, k⟩ := h
  rw [evalO] at ev
  split at ev
  · rename_i i e1 h1
    cases ev
    exact den_int c h1 fun H' H0' p => ⟨i, rfl, k H' H0' p⟩
  · cases ev
def rSli : V → Option Int → Option Int → Hp → VK → Prop := fun x lo hi H Q => ∃ H0 d rv, Ex H0 H ∧ OpV H0 H x d ∧ sliD d lo hi = some rv ∧ ResK H0 H rv Q
theorem cut_reps {H : Hp} {ws : List V} {ds : List D} (r : Reps H ws ds) (lo hi : Option Int) : Reps H (cutV ws lo hi) (cutD ds lo hi) := by
  unfold cutV cutD
  rw [r.len]
  exact (r.drop _).take _
theorem cut_len (ds : List D) (lo hi : Option Int) : (cutD ds lo hi).length ≤ ds.length := by
  unfold cutD
  rw [List.length_take, List.length_drop]
  omega
theorem cut_whole {ds : List D} {lo hi : Option Int} (h : HT.sIx ds.length 0 lo = 0 ∧ HT.sIx ds.length ds.length hi = ds.length) : cutD ds lo hi = ds := by
  unfold cutD
  rw [h.1, h.2, List.drop_zero, Nat.sub_zero, List.take_length]
theorem s_sli {X : Cx} : SlR X rSli := by
  rintro pins s σ H x v vl vu lo hi sl Q I rx hs pl pu ⟨H0, d, rv, e, o, hd, k⟩
  unfold sliD at hd
  split at hd
  · cases hd
    obtain ⟨a, ws, rfl, sa, la, ra⟩ := o
    exact sl_list pins s σ H _ v vl vu lo hi sl Q I rx hs pl pu ⟨a, ws, rfl, .inl sa, k.newL e (Nat.le_trans (cut_len _ _ _) la) (cut_reps ra lo hi)⟩
  · cases hd
    have o' := o
    obtain ⟨a, ws, rfl, sa, la, ra⟩ := o.tup
    refine sl_tupA pins s σ H _ v vl vu lo hi sl Q I rx hs pl pu ⟨a, ws, rfl, .inl (e.rd sa), fun h => ?_, fun h => k.newT e (Nat.le_trans (cut_len _ _ _) la) (cut_reps ra lo hi)⟩
    rw [ra.len] at h
    rw [cut_whole h] at k
    exact k.sc e o'
  · cases hd
theorem i_sli {a : E} {lo hi : Oe} (h : den (evalE cl (.sli a lo hi)) σ H Q) : tSl rSli (denB a (evalE cl a)) (denO (evalO cl lo)) (denO (evalO cl hi)) σ H Q := by
  obtain ⟨env, H0, r, env', c, ev, k⟩ := h
  rw [evalE] at ev
  split at ev
  · rename_i x e1 h1
    split at ev
    · rename_i l e2 h2
      split at ev
      · rename_i u e3 h3
        split at ev
        · rename_i d hd
          obtain ⟨rv, ho, q⟩ := map_some ev
          cases q
          exact ⟨env, H0, x, e1, c, h1, fun v H1 H01 p1 b1 => ⟨e1, H01, l, e2, p1.core, h2, fun H2 H02 p2 => ⟨e2, H02, u, _, p2.core, h3, fun H3 H03 p3 =>
            ⟨H03, d, _, p3.core.sub, p3.core.res ((b1.mono p2.e0).mono p3.e0) hd, ho, fun v H0' H' g q => k v H' H0' (((p1.trans p2).trans p3).grow g) (ResV.of ((p1.trans p2).trans p3) g q)⟩⟩⟩⟩
        · cases ev
      · cases ev
    · cases ev
  · cases ev
/-- x.pop() -/
theorem i_pop {K : PySem.W.Frag} {i : Nat} (h : den (evalE cl (.pop i)) σ H Q) : tBM0 K "list" rPop (tVar i) σ H Q := by
  obtain ⟨env, H0, r, env', c, ev, k⟩ := h
  rw [evalE] at ev
  have go : ∀ (ds : List D) (d : D) (s' : Sl), cellD (getS env i) = some ds → ds.getLast? = some d → sameK (getS env i) s' → cellD s' = some ds.dropLast → r = .dat d → env' = env.set i s' → tBM0 K "list" rPop (tVar i) σ H Q := by
    intro ds d s' hc hl hk hd hr he
    subst hr he
    obtain ⟨a, ws, e, h1, h2, l, q⟩ := c.cell i ds hc
    obtain ⟨v, hv, rv⟩ := q.last hl
    refine ⟨_, e, .inl ⟨rfl, ws, .inl (.inl h1)⟩, a, ws, v, rfl, rfl, h1, hv, ?_⟩
    have p := c.mut hk hd e (by rw [List.length_dropLast]; omega) q.dropLast
    exact k v _ H0 p rv
  split at ev
  · rename_i ds hs
    split at ev
    · rename_i d hl
      cases ev
      exact go ds d _ (by rw [hs]; rfl) hl (by rw [hs]; trivial) rfl rfl rfl
    · cases ev
  · rename_i ds hs
    split at ev
    · rename_i d hl
      cases ev
      exact go ds d _ (by rw [hs]; rfl) hl (by rw [hs]; trivial) rfl rfl rfl
    · cases ev
  · cases ev
end
end NG

/-! NG7: calls. -/
namespace NG
open PySem L2

def AVok (H0 : Hp) (σ : L2.St) (v : V) : AV → Prop
  | .im d => Rep H0 v d
  | .bor i => σ[i]? = some (some v)
  | .cell i => σ[i]? = some (some v)
inductive AVs (H0 : Hp) (σ : L2.St) : List V → List AV → Prop
  | nil : AVs H0 σ [] []
  | cons {v : V} {a : AV} {vs : List V} {as : List AV} : AVok H0 σ v a → AVs H0 σ vs as → AVs H0 σ (v :: vs) (a :: as)
theorem AVok.mono {H0 H0' : Hp} {σ : L2.St} {v : V} {a : AV} (h : AVok H0 σ v a) (e : Ex H0 H0') : AVok H0' σ v a := by
  cases a with
  | im d => exact Rep.mono e _ _ h
  | bor i => exact h
  | cell i => exact h
theorem AVs.mono {H0 H0' : Hp} {σ : L2.St} (e : Ex H0 H0') : ∀ {vs : List V} {as : List AV}, AVs H0 σ vs as → AVs H0' σ vs as
  | _, _, .nil => .nil
  | _, _, .cons h t => .cons (h.mono e) (AVs.mono e t)
theorem AVs.len {H0 : Hp} {σ : L2.St} : ∀ {vs : List V} {as : List AV}, AVs H0 σ vs as → vs.length = as.length
  | _, _, .nil => rfl
  | _, _, .cons _ t => by rw [List.length_cons, List.length_cons, AVs.len t]

inductive ArgsR (H0 H : Hp) : List V → List CArg → List Addr → Prop
  | nil : ArgsR H0 H [] [] []
  | im {v : V} {d : D} {vs : List V} {cs : List CArg} {cl : List Addr} : Rep H0 v d → ArgsR H0 H vs cs cl → ArgsR H0 H (v :: vs) (.im d :: cs) cl
  | cell {a : Addr} {ws : List V} {ds : List D} {vs : List V} {cs : List CArg} {cl : List Addr} : H a = some (.lst ws) → H0 a = none → ds.length ≤ 16777216 → Reps H0 ws ds → ArgsR H0 H vs cs cl → ArgsR H0 H (.ref a :: vs) (.cell ds :: cs) (a :: cl)
structure CPost (H0 H : Hp) (cells : List Addr) (H0' H' : Hp) : Prop where
  e0 : Ex H0 H0'
  sub : Ex H0' H'
  fr : ∀ b o, H b = some o → b ∉ cells → H' b = some o
  nw : ∀ b, H0' b ≠ none → H0 b ≠ none ∨ H b = none
inductive CellsR (H0' H' : Hp) : List Addr → List (List D) → Prop
  | nil : CellsR H0' H' [] []
  | cons {a : Addr} {ws : List V} {ds : List D} {cl : List Addr} {r : List (List D)} : H' a = some (.lst ws) → ds.length ≤ 16777216 → Reps H0' ws ds → CellsR H0' H' cl r → CellsR H0' H' (a :: cl) (ds :: r)
def spOf (md : List Bool) (run : List CArg → Option (RV × List (List D))) : Sp := fun vs H Q _ => vs.length = md.length ∧ ∃ H0 cs cells r outs, Ex H0 H ∧ ArgsR H0 H vs cs cells ∧ cells.Nodup ∧ run cs = some (r, outs) ∧
  ∀ v H0' H', CPost H0 H cells H0' H' → CellsR H0' H' cells outs → ResR H H0' H' v r → Q v H'

def adr (σ : L2.St) (i : Nat) : Addr := match σ[i]? with
  | some (some (.ref a)) => a
  | _ => 0
theorem adr_eq {σ : L2.St} {i : Nat} {a : Addr} (h : σ[i]? = some (some (.ref a))) : adr σ i = a := by
  unfold adr
  rw [h]
theorem nodup_of : ∀ {l : List Nat}, nodupB l = true → l.Nodup
  | [], _ => .nil
  | i :: r, h => by
    unfold nodupB at h
    simp only [Bool.and_eq_true, Bool.not_eq_true'] at h
    refine List.nodup_cons.mpr ⟨fun z => ?_, nodup_of h.2⟩
    rw [List.contains_iff_mem.mpr z] at h
    cases h.1
/-- a slot whose list may be changed -/
def mutS (s : Sl) : Prop := match s with
  | .mu _ => True
  | .pm _ => True
  | _ => False
theorem mutS.cell {s : Sl} (h : mutS s) : ∃ ds, cellD s = some ds := by
  cases s <;> first | exact h.elim | exact ⟨_, rfl⟩
inductive SetR (env env' : NEnv) : List Nat → List (List D) → Prop
  | nil : SetR env env' [] []
  | mu {i : Nat} {ds0 ds : List D} {is : List Nat} {r : List (List D)} : getS env i = .mu ds0 → getS env' i = .mu ds → SetR env env' is r → SetR env env' (i :: is) (ds :: r)
  | pm {i : Nat} {ds0 ds : List D} {is : List Nat} {r : List (List D)} : getS env i = .pm ds0 → getS env' i = .pm ds → SetR env env' is r → SetR env env' (i :: is) (ds :: r)
theorem setC_ne {env : NEnv} {i j : Nat} {ds : List D} (h : i ≠ j) : getS (setC env i ds) j = getS env j := by
  unfold setC
  split
  · exact getS_set_ne h
  · exact getS_set_ne h
  · rfl
theorem setC_len {env : NEnv} {i : Nat} {ds : List D} : (setC env i ds).length = env.length := by
  unfold setC
  split
  · exact List.length_set
  · exact List.length_set
  · rfl
theorem setCs_spec : ∀ {is : List Nat} {outs : List (List D)} {env env' : NEnv}, setCs env is outs = some env' → is.Nodup → (∀ i ∈ is, mutS (getS env i)) →
    (∀ j, j ∉ is → getS env' j = getS env j) ∧ env'.length = env.length ∧ SetR env env' is outs
  | [], [], env, env', h, _, _ => by
    cases h
    exact ⟨fun _ _ => rfl, rfl, .nil⟩
  | i :: is, ds :: r, env, env', h, nd, hm => by
    have h : setCs (setC env i ds) is r = some env' := h
    obtain ⟨n1, n2⟩ := List.nodup_cons.mp nd
    obtain ⟨h1, h2, h3⟩ := setCs_spec h n2 fun k hk => by
      rw [setC_ne (fun e => n1 (by rw [e]; exact hk))]
      exact hm k (List.mem_cons_of_mem _ hk)
    have up : ∀ {l : List Nat} {o : List (List D)}, i ∉ l → SetR (setC env i ds) env' l o → SetR env env' l o := fun {l o} hl s => by
      induction s with
      | nil => exact .nil
      | mu a b _ ih =>
        rw [setC_ne (fun e => hl (by rw [e]; exact List.mem_cons_self))] at a
        exact .mu a b (ih fun z => hl (List.mem_cons_of_mem _ z))
      | pm a b _ ih =>
        rw [setC_ne (fun e => hl (by rw [e]; exact List.mem_cons_self))] at a
        exact .pm a b (ih fun z => hl (List.mem_cons_of_mem _ z))
    refine ⟨fun j hj => ?_, h2.trans setC_len, ?_⟩
    · rw [h1 j fun z => hj (List.mem_cons_of_mem _ z), setC_ne (fun e => hj (by rw [e]; exact List.mem_cons_self))]
    · have hi := hm i List.mem_cons_self
      obtain ⟨ds0, hc⟩ := hi.cell
      have hl := cell_lt hc
      have own := h1 i n1
      cases q : getS env i with
      | mu d0 =>
        refine .mu q ?_ (up n1 h3)
        rw [own]
        unfold setC
        rw [q]
        exact getS_set_same hl
      | pm d0 =>
        refine .pm q ?_ (up n1 h3)
        rw [own]
        unfold setC
        rw [q]
        exact getS_set_same hl
      | un => rw [q] at hi; exact hi.elim
      | im _ => rw [q] at hi; exact hi.elim
      | bo _ => rw [q] at hi; exact hi.elim
  | [], _ :: _, _, _, h, _, _ => by cases h
  | _ :: _, [], _, _, h, _, _ => by cases h
/-- what stands in a slot that was given to a call, and in its list -/
theorem SetR.at {env env' : NEnv} {σ : L2.St} {H0' H' : Hp} : ∀ {is : List Nat} {outs : List (List D)}, SetR env env' is outs → CellsR H0' H' (is.map (adr σ)) outs → ∀ i ∈ is, ∃ ds ws, ((∃ d0, getS env i = .mu d0) ∧ getS env' i = .mu ds ∨ (∃ d0, getS env i = .pm d0) ∧ getS env' i = .pm ds) ∧
    H' (adr σ i) = some (.lst ws) ∧ ds.length ≤ 16777216 ∧ Reps H0' ws ds
  | _, _, .nil, _, i, h => by cases h
  | _, _, .mu a b t, c, i, h => by
    cases c with
    | cons h1 l r c' =>
      rcases List.mem_cons.mp h with e | h
      · subst e
        exact ⟨_, _, .inl ⟨⟨_, a⟩, b⟩, h1, l, r⟩
      · exact SetR.at t c' i h
  | _, _, .pm a b t, c, i, h => by
    cases c with
    | cons h1 l r c' =>
      rcases List.mem_cons.mp h with e | h
      · subst e
        exact ⟨_, _, .inr ⟨⟨_, a⟩, b⟩, h1, l, r⟩
      · exact SetR.at t c' i h

section
variable {σ : L2.St} {env env1 env' : NEnv} {H0 H H0n H' : Hp}
theorem Core.adr (c : Core σ env H0 H) {i : Nat} {ds : List D} (h : cellD (getS env i) = some ds) : σ[i]? = some (some (.ref (adr σ i))) := by
  obtain ⟨a, ws, e, _⟩ := c.cell i ds h
  rw [adr_eq e]
  exact e
theorem Core.adr_inj (c : Core σ env H0 H) {i j : Nat} {ds es : List D} (h : cellD (getS env i) = some ds) (h' : cellD (getS env j) = some es) (e : NG.adr σ i = NG.adr σ j) : i = j :=
  c.inj i j (NG.adr σ i) (by rw [h]; exact fun z => nomatch z) (by rw [h']; exact fun z => nomatch z) (c.adr h) (by rw [e]; exact c.adr h')
theorem nodup_map {f : Nat → Addr} : ∀ {l : List Nat}, l.Nodup → (∀ i ∈ l, ∀ j ∈ l, f i = f j → i = j) → (l.map f).Nodup
  | [], _, _ => .nil
  | i :: r, nd, h => by
    obtain ⟨n1, n2⟩ := List.nodup_cons.mp nd
    refine List.nodup_cons.mpr ⟨fun z => ?_, nodup_map n2 fun a ha b hb => h a (List.mem_cons_of_mem _ ha) b (List.mem_cons_of_mem _ hb)⟩
    obtain ⟨j, hj, e⟩ := List.mem_map.mp z
    have := h i List.mem_cons_self j (List.mem_cons_of_mem _ hj) e.symm
    exact n1 (by rw [this]; exact hj)
/-- behind a call -/
theorem call_post {is : List Nat} {outs : List (List D)} (c : Core σ env H0 H)
    (h1 : ∀ j, getS env1 j = getS env j ∨ ∃ ds, getS env j = .mu ds ∧ getS env1 j = .im (.list ds) ∧ Rep H0n (.ref (adr σ j)) (.list ds)) (hl : env1.length = env.length)
    (his : ∀ i ∈ is, mutS (getS env1 i)) (nd : is.Nodup) (hs : setCs env1 is outs = some env') (e0 : Ex H0 H0n) (sub : Ex H0n H') (nw : ∀ b, H0n b ≠ none → H0 b ≠ none ∨ H b = none ∨ IsCell env σ b)
    (hn : ∀ j ds, cellD (getS env1 j) = some ds → H0n (adr σ j) = none) (fr : ∀ b o, H b = some o → b ∉ is.map (adr σ) → H' b = some o) (cr : CellsR H0n H' (is.map (adr σ)) outs) :
    Post σ env H0 H σ env' H0n H' ∧ ∀ a, IsCell env' σ a → IsCell env σ a := by
  obtain ⟨s1, s2, s3⟩ := setCs_spec hs nd his
  have at_ := SetR.at (σ := σ) s3 cr
  -- a cell of the end is one of the beginning
  have back : ∀ j ds, cellD (getS env' j) = some ds → ∃ ds0, cellD (getS env1 j) = some ds0 ∧ cellD (getS env j) = some ds0 := fun j ds q => by
    have b1 : ∃ ds0, cellD (getS env1 j) = some ds0 := by
      by_cases hj : j ∈ is
      · exact (his j hj).cell
      · rw [s1 j hj] at q
        exact ⟨_, q⟩
    obtain ⟨ds0, b1⟩ := b1
    refine ⟨ds0, b1, ?_⟩
    rcases h1 j with e | ⟨d, _, e, _⟩
    · rw [← e]; exact b1
    · rw [e] at b1; cases b1
  have old : ∀ j ds, cellD (getS env j) = some ds → j ∉ is → adr σ j ∉ is.map (adr σ) := fun j ds q hj z => by
    obtain ⟨k, hk, e⟩ := List.mem_map.mp z
    obtain ⟨d1, q1⟩ := (his k hk).cell
    have q2 : cellD (getS env k) = some d1 := by
      rcases h1 k with e | ⟨d, _, e, _⟩
      · rw [← e]; exact q1
      · rw [e] at q1; cases q1
    have := c.adr_inj q2 q e
    exact hj (by rw [← this]; exact hk)
  refine ⟨?_, fun a q => by
    obtain ⟨j, ds, q1, q2⟩ := q
    obtain ⟨ds0, _, b2⟩ := back j ds q1
    exact ⟨j, ds0, b2, q2⟩⟩
  refine ⟨⟨sub, by rw [s2, hl]; exact c.len, fun j d q => ?_, fun j ds q => ?_, fun i j a q1 q2 q3 q4 => ?_⟩, e0, fun b o q n => fr b o q fun z => ?_, fun b q => ?_, nw, fun a q => ?_, fun j ds q => ?_, fun j ds q => ?_⟩
  · by_cases hj : j ∈ is
    · obtain ⟨ds, ws, k, _⟩ := at_ j hj
      rcases k with ⟨_, k⟩ | ⟨_, k⟩ <;> (rw [q] at k; cases k)
    · rw [s1 j hj] at q
      rcases h1 j with e | ⟨ds, e1, e2, e3⟩
      · rw [e] at q
        obtain ⟨x, q1, q2⟩ := c.im j d q
        exact ⟨x, q1, q2.mono e0⟩
      · rw [e2] at q
        cases q
        exact ⟨_, c.adr (ds := ds) (by rw [e1]; rfl), e3⟩
  · obtain ⟨ds0, b1, b2⟩ := back j ds q
    have ha := c.adr b2
    have hz := hn j ds0 b1
    by_cases hj : j ∈ is
    · obtain ⟨ds', ws, k, k1, k2, k3⟩ := at_ j hj
      have : ds' = ds := by
        rcases k with ⟨_, k⟩ | ⟨_, k⟩ <;> (rw [k] at q; cases q; rfl)
      subst this
      exact ⟨_, ws, ha, k1, hz, k2, k3⟩
    · rw [s1 j hj, b1] at q
      cases q
      obtain ⟨a, ws, e, q1, q2, l, r⟩ := c.cell j _ b2
      rw [ha] at e
      cases e
      exact ⟨_, ws, ha, fr _ _ q1 (old j _ b2 hj), hz, l, r.mono e0⟩
  · have b : ∀ j, cellD (getS env' j) ≠ none → cellD (getS env j) ≠ none := fun j q => by
      cases k : cellD (getS env' j) with
      | none => exact absurd k q
      | some ds =>
        obtain ⟨ds0, _, b2⟩ := back j ds k
        rw [b2]
        exact fun z => nomatch z
    exact c.inj i j a (b i q1) (b j q2) q3 q4
  · obtain ⟨k, hk, e⟩ := List.mem_map.mp z
    obtain ⟨d1, q1⟩ := (his k hk).cell
    have q2 : cellD (getS env k) = some d1 := by
      rcases h1 k with e | ⟨d, _, e, _⟩
      · rw [← e]; exact q1
      · rw [e] at q1; cases q1
    exact n ⟨k, d1, q2, by rw [← e]; exact c.adr q2⟩
  · cases w : H b with
    | none => rfl
    | some o =>
      by_cases hb : b ∈ is.map (adr σ)
      · obtain ⟨k, hk, e⟩ := List.mem_map.mp hb
        obtain ⟨_, ws, _, k1, _⟩ := at_ k hk
        rw [e, q] at k1
        cases k1
      · rw [fr b o w hb] at q
        cases q
  · obtain ⟨j, ds, q1, q2⟩ := q
    obtain ⟨ds0, _, b2⟩ := back j ds q1
    exact .inl ⟨j, ds0, b2, q2⟩
  · have hj : j ∉ is := fun hj => by
      have m := his j hj
      rcases h1 j with e | ⟨_, e, _⟩
      · rw [e, q] at m; exact m
      · rw [q] at e; cases e
    rw [s1 j hj]
    rcases h1 j with e | ⟨_, e, _⟩
    · exact ⟨e.trans q, rfl⟩
    · rw [q] at e; cases e
  · by_cases hj : j ∈ is
    · obtain ⟨ds', ws, k, _⟩ := at_ j hj
      have e : getS env1 j = getS env j := by
        rcases h1 j with e | ⟨_, e, _⟩
        · exact e
        · rw [q] at e; cases e
      rcases k with ⟨⟨_, k1⟩, k⟩ | ⟨_, k⟩
      · rw [e, q] at k1; cases k1
      · exact ⟨⟨ds', k⟩, rfl⟩
    · rw [s1 j hj]
      rcases h1 j with e | ⟨_, e, _⟩
      · exact ⟨⟨ds, e.trans q⟩, rfl⟩
      · rw [q] at e; cases e

theorem map_some2 {α β : Type} {o : Option α} {f : α → β} {b : β} (h : o.map f = some b) : ∃ a, o = some a ∧ f a = b := map_some h
/-- the arguments as the callee wants them -/
theorem args_r {H0c : Hp} (c : Core σ env H0 H) (e1 : Ex H0 H0c) (e2 : Ex H0c H) : ∀ {vs : List V} {as : List AV} {cs : List CArg}, AVs H0 σ vs as → cargs env as = some cs →
    (∀ i ∈ borsA as, ∀ ds, cellD (getS env i) = some ds → H0c (adr σ i) = H (adr σ i)) → (∀ i ∈ cellsA as, H0c (adr σ i) = none) → ArgsR H0c H vs cs ((cellsA as).map (adr σ))
  | _, _, _, .nil, h, _, _ => by cases h; exact .nil
  | v :: vs, .im d :: as, cs, .cons a t, h, hb, hc => by
    obtain ⟨cs', h1, rfl⟩ := map_some (show (cargs env as).map _ = some cs from h)
    exact .im (Rep.mono e1 _ _ a) (args_r (as := as) c e1 e2 t h1 hb hc)
  | v :: vs, .bor i :: as, cs, .cons a t, h, hb, hc => by
    have a : σ[i]? = some (some v) := a
    have h : (match slD (getS env i) with
      | some (.list ds) => (cargs env as).map (CArg.im (.list ds) :: ·)
      | _ => none) = some cs := h
    split at h
    · rename_i ds hd
      obtain ⟨cs', h1, rfl⟩ := map_some h
      refine .im ?_ (args_r (as := as) c e1 e2 t h1 (fun k hk => hb k (List.mem_cons_of_mem _ hk)) hc)
      cases q : getS env i with
      | un => rw [q] at hd; cases hd
      | im d =>
        rw [q] at hd
        cases hd
        obtain ⟨x, q1, q2⟩ := c.im i _ q
        rw [a] at q1
        cases q1
        exact q2.mono e1
      | mu es =>
        have hq : cellD (getS env i) = some es := by rw [q]; rfl
        rw [q] at hd
        cases hd
        obtain ⟨b, ws, q1, q2, q3, l, r⟩ := c.cell i _ hq
        have z := hb i List.mem_cons_self _ hq
        rw [adr_eq q1, q2] at z
        rw [a] at q1
        cases q1
        exact .lst (.inl z) l (r.mono e1)
      | pm es =>
        have hq : cellD (getS env i) = some es := by rw [q]; rfl
        rw [q] at hd
        cases hd
        obtain ⟨b, ws, q1, q2, q3, l, r⟩ := c.cell i _ hq
        have z := hb i List.mem_cons_self _ hq
        rw [adr_eq q1, q2] at z
        rw [a] at q1
        cases q1
        exact .lst (.inl z) l (r.mono e1)
      | bo es =>
        have hq : cellD (getS env i) = some es := by rw [q]; rfl
        rw [q] at hd
        cases hd
        obtain ⟨b, ws, q1, q2, q3, l, r⟩ := c.cell i _ hq
        have z := hb i List.mem_cons_self _ hq
        rw [adr_eq q1, q2] at z
        rw [a] at q1
        cases q1
        exact .lst (.inl z) l (r.mono e1)
    · cases h
  | v :: vs, .cell i :: as, cs, .cons a t, h, hb, hc => by
    have a : σ[i]? = some (some v) := a
    have key : ∀ es, cellD (getS env i) = some es → ∀ cs', cargs env as = some cs' → ArgsR H0c H (v :: vs) (.cell es :: cs') (adr σ i :: (cellsA as).map (adr σ)) := fun es hq cs' h1 => by
      obtain ⟨b, ws, q1, q2, q3, l, r⟩ := c.cell i _ hq
      have z := hc i List.mem_cons_self
      rw [a] at q1
      cases q1
      rw [adr_eq a] at z ⊢
      exact .cell q2 z l (r.mono e1) (args_r (as := as) c e1 e2 t h1 hb fun k hk => hc k (List.mem_cons_of_mem _ hk))
    have h : (match getS env i with
      | .mu ds => (cargs env as).map (CArg.cell ds :: ·)
      | .pm ds => (cargs env as).map (CArg.cell ds :: ·)
      | _ => none) = some cs := h
    split at h
    · rename_i ds hd
      obtain ⟨cs', h1, rfl⟩ := map_some h
      exact key ds (by rw [hd]; rfl) cs' h1
    · rename_i ds hd
      obtain ⟨cs', h1, rfl⟩ := map_some h
      exact key ds (by rw [hd]; rfl) cs' h1
    · cases h
theorem cells_mut : ∀ {as : List AV} {cs : List CArg}, cargs env as = some cs → ∀ i ∈ cellsA as, mutS (getS env i)
  | [], _, _, i, hi => by cases hi
  | .im d :: as, cs, h, i, hi => by
    obtain ⟨cs', h1, rfl⟩ := map_some (show (cargs env as).map _ = some cs from h)
    exact cells_mut h1 i hi
  | .bor j :: as, cs, h, i, hi => by
    have h : (match slD (getS env j) with
      | some (.list ds) => (cargs env as).map (CArg.im (.list ds) :: ·)
      | _ => none) = some cs := h
    split at h
    · obtain ⟨cs', h1, rfl⟩ := map_some h
      exact cells_mut h1 i hi
    · cases h
  | .cell j :: as, cs, h, i, hi => by
    have h : (match getS env j with
      | .mu ds => (cargs env as).map (CArg.cell ds :: ·)
      | .pm ds => (cargs env as).map (CArg.cell ds :: ·)
      | _ => none) = some cs := h
    split at h
    · rename_i ds hd
      obtain ⟨cs', h1, rfl⟩ := map_some h
      rcases List.mem_cons.mp hi with e | hi
      · rw [e, hd]; trivial
      · exact cells_mut h1 i hi
    · rename_i ds hd
      obtain ⟨cs', h1, rfl⟩ := map_some h
      rcases List.mem_cons.mp hi with e | hi
      · rw [e, hd]; trivial
      · exact cells_mut h1 i hi
    · cases h
theorem CellsR.flat {H0' : Hp} : ∀ {cl : List Addr} {outs : List (List D)}, CellsR H0' H' cl outs → (outs.all fun ds => ds.all NG.flat) = true → CellsR H0n H' cl outs
  | _, _, .nil, _ => .nil
  | _, _, .cons h l r t, f => by
    rw [List.all_cons, Bool.and_eq_true] at f
    exact .cons h l (r.flat f.1) (t.flat f.2)
theorem frz_spec : ∀ {is : List Nat} {env env1 : NEnv}, frz env is = some env1 → env1.length = env.length ∧ ∀ j, getS env1 j = getS env j ∨ ∃ ds, j ∈ is ∧ getS env j = .mu ds ∧ getS env1 j = .im (.list ds)
  | [], env, env1, h => by cases h; exact ⟨rfl, fun _ => .inl rfl⟩
  | i :: is, env, env1, h => by
    have h : (match getS env i with
      | .mu ds => frz (env.set i (.im (.list ds))) is
      | .im _ => frz env is
      | _ => none) = some env1 := h
    split at h
    · rename_i ds hd
      obtain ⟨h1, h2⟩ := frz_spec h
      refine ⟨by rw [h1, List.length_set], fun j => ?_⟩
      by_cases hj : i = j
      · subst hj
        have hi : i < env.length := getS_lt fun e => by rw [hd] at e; cases e
        rcases h2 i with e | ⟨ds', _, e, _⟩
        · rw [getS_set_same hi] at e
          exact .inr ⟨ds, List.mem_cons_self, hd, e⟩
        · rw [getS_set_same hi] at e
          cases e
      · rcases h2 j with e | ⟨ds', m, e, e'⟩
        · rw [getS_set_ne hj] at e
          exact .inl e
        · rw [getS_set_ne hj] at e
          exact .inr ⟨ds', List.mem_cons_of_mem _ m, e, e'⟩
    · obtain ⟨h1, h2⟩ := frz_spec h
      refine ⟨h1, fun j => ?_⟩
      rcases h2 j with e | ⟨ds', m, e, e'⟩
      · exact .inl e
      · exact .inr ⟨ds', List.mem_cons_of_mem _ m, e, e'⟩
    · cases h
theorem frz_all : ∀ {is : List Nat} {env env1 : NEnv}, frz env is = some env1 → ∀ i ∈ is, cellD (getS env1 i) = none
  | [], _, _, _, i, hi => by cases hi
  | k :: is, env, env1, h, i, hi => by
    have h : (match getS env k with
      | .mu ds => frz (env.set k (.im (.list ds))) is
      | .im _ => frz env is
      | _ => none) = some env1 := h
    have im : ∀ {env0 : NEnv}, frz env0 is = some env1 → cellD (getS env0 k) = none → cellD (getS env1 k) = none := fun {env0} h q => by
      rcases (frz_spec h).2 k with e | ⟨_, _, _, e⟩
      · rw [e]; exact q
      · rw [e]; rfl
    split at h
    · rename_i ds hd
      have hk : k < env.length := getS_lt fun e => by rw [hd] at e; cases e
      rcases List.mem_cons.mp hi with e | hi
      · rw [e]
        exact im h (by rw [getS_set_same hk]; rfl)
      · exact frz_all h i hi
    · rename_i d hd
      rcases List.mem_cons.mp hi with e | hi
      · rw [e]
        exact im h (by rw [hd]; rfl)
      · exact frz_all h i hi
    · cases h
theorem resV_of {v : V} {r : RV} (c : Core σ env H0 H) (p : ∀ a, IsCell env' σ a → IsCell env σ a) (h : ResR H H0n H' v r) : ResV env' σ H H0n H' v r := by
  cases r with
  | dat d => exact h
  | new ds =>
    obtain ⟨a, ws, e, h1, h2, h3, l, r⟩ := h
    refine ⟨a, ws, e, h1, h2, h3, l, r, fun z => ?_⟩
    obtain ⟨us, q', _⟩ := c.isc (p a z)
    rw [h1] at q'; cases q'
/-- THE CALL -/
theorem i_call {md : List Bool} {run : List CArg → Option (RV × List (List D))} {vs : List V} {as : List AV} {r : RV} {Q : VK} {E : XK} (c : Core σ env H0 H) (av : AVs H0 σ vs as) (hl : vs.length = md.length)
    (h : callE run as env = some (r, env')) (k : ∀ v H' H0', Post σ env H0 H σ env' H0' H' → ResV env' σ H H0' H' v r → Q v H') : spOf md run vs H Q E := by
  unfold callE at h
  split at h
  · rename_i hnd
    simp only [Bool.and_eq_true, List.all_eq_true, Bool.not_eq_true'] at hnd
    obtain ⟨nd, dj⟩ := hnd
    have nd := nodup_of nd
    have dj : ∀ i ∈ borsA as, i ∉ cellsA as := fun i hi z => by
      have := dj i hi
      rw [List.contains_iff_mem.mpr z] at this
      cases this
    split at h
    · rename_i cs hcs
      have hm := cells_mut hcs
      have ndA : ((cellsA as).map (adr σ)).Nodup := nodup_map nd fun i hi j hj e => by
        obtain ⟨d1, q1⟩ := (hm i hi).cell
        obtain ⟨d2, q2⟩ := (hm j hj).cell
        exact c.adr_inj q1 q2 e
      have cz : ∀ j ds, cellD (getS env j) = some ds → H0 (adr σ j) = none := fun j ds q => by
        obtain ⟨a, ws, e, _, q2, _⟩ := c.cell j ds q
        rw [adr_eq e]
        exact q2
      -- the part that is frozen for the call: with the lists that are lent
      have lent : ∃ H0c : Hp, Ex H0 H0c ∧ Ex H0c H ∧ (∀ i ∈ borsA as, ∀ ds, cellD (getS env i) = some ds → H0c (adr σ i) = H (adr σ i)) ∧ (∀ b, H0c b ≠ none → H0 b ≠ none ∨ (∃ i ∈ borsA as, ∃ ds, cellD (getS env i) = some ds ∧ b = adr σ i)) ∧ (borsA as = [] → H0c = H0) := by
        classical
        refine ⟨fun b => if (∃ i ∈ borsA as, ∃ ds, cellD (getS env i) = some ds ∧ b = adr σ i) then H b else H0 b, fun b o e => ?_, fun b o e => ?_, fun i hi ds q => if_pos ⟨i, hi, ds, q, rfl⟩, fun b e => ?_, fun e => ?_⟩
        · show (if _ then _ else _) = _
          split
          · exact c.sub b o e
          · exact e
        · have e : (if _ then _ else _) = some o := e
          split at e
          · exact e
          · exact c.sub b o e
        · by_cases q : (∃ i ∈ borsA as, ∃ ds, cellD (getS env i) = some ds ∧ b = adr σ i)
          · exact .inr q
          · have e : (if _ then _ else _) ≠ none := e
            rw [if_neg q] at e
            exact .inl e
        · funext b
          exact if_neg fun ⟨i, hi, _⟩ => by rw [e] at hi; cases hi
      obtain ⟨H0c, x1, x2, x3, x4, x5⟩ := lent
      have x6 : ∀ i ∈ cellsA as, H0c (adr σ i) = none := fun i hi => by
        cases q : H0c (adr σ i) with
        | none => rfl
        | some o =>
          obtain ⟨d1, q1⟩ := (hm i hi).cell
          rcases x4 (adr σ i) (by rw [q]; exact fun z => nomatch z) with z | ⟨j, hj, ds, z1, z2⟩
          · exact absurd (cz i d1 q1) z
          · have := c.adr_inj q1 z1 z2
            exact absurd hi (by rw [this]; exact dj j hj)
      have ar := args_r c x1 x2 av hcs x3 x6
      have frI : ∀ {H' : Hp}, (∀ b o, H b = some o → b ∉ (cellsA as).map (adr σ) → H' b = some o) → ∀ b o, H b = some o → ¬ IsCell env σ b → H' b = some o := fun f b o q n => f b o q fun z => by
        obtain ⟨i, hi, e⟩ := List.mem_map.mp z
        obtain ⟨d1, q1⟩ := (hm i hi).cell
        exact n ⟨i, d1, q1, by rw [← e]; exact c.adr q1⟩
      split at h
      · -- nothing is lent
        rename_i hb
        split at h
        · rename_i r' outs hr
          obtain ⟨e', hs, q⟩ := map_some h
          cases q
          refine ⟨hl, H0c, cs, _, r, outs, x2, ar, ndA, hr, fun v H0' H' p cr res => ?_⟩
          rw [x5 hb] at p
          obtain ⟨p1, p2⟩ := call_post (env1 := env) (H0n := H0') c (fun j => .inl rfl) rfl hm nd hs p.e0 p.sub (fun b q => (p.nw b q).elim .inl fun z => .inr (.inl z)) (fun j ds q => by
            cases w : H0' (adr σ j) with
            | none => rfl
            | some o =>
              obtain ⟨a, ws, e, q1, q2, _⟩ := c.cell j ds q
              rcases p.nw (adr σ j) (by rw [w]; exact fun z => nomatch z) with z | z
              · exact absurd (cz j ds q) z
              · rw [adr_eq e, q1] at z; cases z) p.fr cr
          exact k v H' H0' p1 (resV_of c p2 res)
        · cases h
      · split at h
        · rename_i r' outs hr
          split at h
          · -- flat answers: the lists that were lent are as before
            rename_i hf
            rw [Bool.and_eq_true] at hf
            obtain ⟨e', hs, q⟩ := map_some h
            cases q
            refine ⟨hl, H0c, cs, _, r, outs, x2, ar, ndA, hr, fun v H0' H' p cr res => ?_⟩
            have sub : Ex H0 H' := (x1.trans p.e0).trans p.sub
            obtain ⟨p1, p2⟩ := call_post (env1 := env) (H0n := H0) c (fun j => .inl rfl) rfl hm nd hs (.refl _) sub (fun b q => .inl q) cz p.fr (cr.flat hf.2)
            refine k v H' H0 p1 ?_
            cases r with
            | dat d => exact Rep.flat (show Rep H0' v d from res) hf.1
            | new ds => cases hf.1
          · split at h
            · rename_i e1 hz
              obtain ⟨e', hs, q⟩ := map_some h
              cases q
              refine ⟨hl, H0c, cs, _, r, outs, x2, ar, ndA, hr, fun v H0' H' p cr res => ?_⟩
              obtain ⟨z1, z2⟩ := frz_spec hz
              have z3 := frz_all hz
              have c1 : ∀ j, getS e1 j = getS env j ∨ ∃ ds, getS env j = .mu ds ∧ getS e1 j = .im (.list ds) ∧ Rep H0' (.ref (adr σ j)) (.list ds) := fun j => by
                rcases z2 j with e | ⟨ds, m, e, e'⟩
                · exact .inl e
                · refine .inr ⟨ds, e, e', ?_⟩
                  have hc : cellD (getS env j) = some ds := by rw [e]; rfl
                  obtain ⟨a, ws, q1, q2, q3, l, rr⟩ := c.cell j ds hc
                  have w := x3 j m ds hc
                  rw [adr_eq q1] at w ⊢
                  rw [q2] at w
                  exact .lst (.inl (p.e0 _ _ w)) l (rr.mono (x1.trans p.e0))
              have m1 : ∀ i ∈ cellsA as, mutS (getS e1 i) := fun i hi => by
                rcases z2 i with e | ⟨ds, m, e, e'⟩
                · rw [e]; exact hm i hi
                · exact absurd hi (dj i m)
              have nwb : ∀ b, H0' b ≠ none → H0 b ≠ none ∨ H b = none ∨ IsCell env σ b := fun b q => by
                rcases p.nw b q with z | z
                · rcases x4 b z with z | ⟨i, hi, ds, z1, z2⟩
                  · exact .inl z
                  · exact .inr (.inr ⟨i, ds, z1, by rw [z2]; exact c.adr z1⟩)
                · exact .inr (.inl z)
              have hnj : ∀ j ds, cellD (getS e1 j) = some ds → H0' (adr σ j) = none := fun j ds q => by
                cases w : H0' (adr σ j) with
                | none => rfl
                | some o =>
                  have hq : cellD (getS env j) = some ds := by
                    rcases c1 j with e | ⟨_, _, e, _⟩
                    · rw [← e]; exact q
                    · rw [e] at q; cases q
                  obtain ⟨a, ws, e, q1, q2, _⟩ := c.cell j ds hq
                  rcases p.nw (adr σ j) (by rw [w]; exact fun z => nomatch z) with z | z
                  · rcases x4 (adr σ j) z with z | ⟨i, hi, ds', y1, y2⟩
                    · exact absurd (cz j ds hq) z
                    · have := c.adr_inj hq y1 y2
                      subst this
                      rw [z3 j hi] at q
                      cases q
                  · rw [adr_eq e, q1] at z; cases z
              obtain ⟨p1, p2⟩ := call_post (env1 := e1) (H0n := H0') c c1 z1 m1 nd hs (x1.trans p.e0) p.sub nwb hnj p.fr cr
              exact k v H' H0' p1 (resV_of c p2 res)
            · cases h
        · cases h
    · cases h
  · cases h
end
/-! ### the arguments -/
def denAV (m : Bool) (e : E) (ev : NEnv → Option (RV × NEnv)) : TE := fun σ H Q => ∃ env H0 a env', Core σ env H0 H ∧ evAV m e ev env = some (a, env') ∧ ∀ v H' H0', Post σ env H0 H σ env' H0' H' → AVok H0' σ v a → Q v H'
def denA (ev : NEnv → Option (List AV × NEnv)) : TA := fun σ H Q => ∃ env H0 as env', Core σ env H0 H ∧ ev env = some (as, env') ∧ ∀ vs H' H0', Post σ env H0 H σ env' H0' H' → AVs H0' σ vs as → Q vs H'
section
variable {σ : L2.St} {H : Hp} {cl : CL}
theorem i_av {m : Bool} {e : E} {ev : NEnv → Option (RV × NEnv)} {Q : VK} (he : ∀ i, e ≠ .var i) (h : denAV m e ev σ H Q) : den ev σ H Q := by
  obtain ⟨env, H0, a, env', c, q, k⟩ := h
  unfold evAV at q
  split at q
  · exact absurd rfl (he _)
  · split at q
    · cases q
    · split at q
      · rename_i r e1 h1
        cases q
        exact denD_den ⟨env, H0, r, _, c, h1, fun v H' H0' p q => k v H' H0' p q⟩
      · cases q
theorem i_avV {m : Bool} {i : Nat} {ev : NEnv → Option (RV × NEnv)} {Q : VK} (h : denAV m (.var i) ev σ H Q) : tVar i σ H Q := by
  obtain ⟨env, H0, a, env', c, q, k⟩ := h
  have q : (match getS env i with
    | .im d => if m = true then none else some (AV.im d, env)
    | .mu _ => some (if m = true then AV.cell i else AV.bor i, env)
    | .pm _ => some (if m = true then AV.cell i else AV.bor i, env)
    | .bo _ => if m = true then none else some (AV.bor i, env)
    | .un => none) = some (a, env') := q
  have cellc : ∀ ds, cellD (getS env i) = some ds → a = .cell i ∨ a = .bor i → env' = env → tVar i σ H Q := fun ds hc ha he => by
    subst he
    obtain ⟨b, ws, h1, _⟩ := c.cell i ds hc
    refine ⟨_, h1, k _ H H0 (.refl c) ?_⟩
    rcases ha with e | e <;> (subst e; exact h1)
  cases hg : getS env i with
  | un => rw [hg] at q; cases q
  | im d =>
    rw [hg] at q
    simp only at q
    split at q
    · cases q
    · cases q
      obtain ⟨x, h1, h2⟩ := c.im i d hg
      exact ⟨x, h1, k x H H0 (.refl c) h2⟩
  | mu ds =>
    rw [hg] at q
    cases q
    refine cellc ds (by rw [hg]; rfl) ?_ rfl
    cases m
    · exact .inr rfl
    · exact .inl rfl
  | pm ds =>
    rw [hg] at q
    cases q
    refine cellc ds (by rw [hg]; rfl) ?_ rfl
    cases m
    · exact .inr rfl
    · exact .inl rfl
  | bo ds =>
    rw [hg] at q
    simp only at q
    split at q
    · cases q
    · cases q
      exact cellc ds (by rw [hg]; rfl) (.inr rfl) rfl
theorem av_nil {md : List Bool} {Q : List V → Hp → Prop} (h : denA (evalA cl md .nil) σ H Q) : tNil σ H Q := by
  obtain ⟨env, H0, as, env', c, ev, k⟩ := h
  cases md with
  | nil =>
    rw [evalA] at ev
    cases ev
    exact k [] H H0 (.refl c) .nil
  | cons m ms =>
    rw [evalA] at ev
    · cases ev
    all_goals (intros; simp_all)
theorem av_cons {m : Bool} {ms : List Bool} {e : E} {es : Es} {Q : List V → Hp → Prop} (h : denA (evalA cl (m :: ms) (.cons e es)) σ H Q) : tCons (denAV m e (evalE cl e)) (denA (evalA cl ms es)) σ H Q := by
  obtain ⟨env, H0, as, env', c, ev, k⟩ := h
  rw [evalA] at ev
  split at ev
  · rename_i a e1 h1
    split at ev
    · rename_i as' e2 h2
      cases ev
      exact ⟨env, H0, a, e1, c, h1, fun v H1 H01 p1 q1 => ⟨e1, H01, as', _, p1.core, h2, fun vs H2 H02 p2 q2 => k _ H2 H02 (p1.trans p2) (.cons (q1.mono p2.e0) q2)⟩⟩
    · cases ev
  · cases ev
theorem evalA_len : ∀ {md : List Bool} {es : Es} {env env' : NEnv} {as : List AV}, evalA cl md es env = some (as, env') → as.length = md.length
  | [], .nil, _, _, _, h => by rw [evalA] at h; cases h; rfl
  | m :: ms, .cons e es, env, env', as, h => by
    rw [evalA] at h
    split at h
    · split at h
      · rename_i h2
        cases h
        rw [List.length_cons, List.length_cons, evalA_len h2]
      · cases h
    · cases h
  | [], .cons _ _, _, _, _, h => by
    rw [evalA] at h
    · cases h
    all_goals (intros; simp_all)
  | _ :: _, .nil, _, _, _, h => by
    rw [evalA] at h
    · cases h
    all_goals (intros; simp_all)
theorem i_callE {f : Nat} {es : Es} {Q : VK} {E : XK} (h : den (evalE cl (.call f es)) σ H Q) : tCall (spOf (cl.md f) (cl.run f)) [] E (denA (evalA cl (cl.md f) es)) σ H Q := by
  obtain ⟨env, H0, r, env', c, ev, k⟩ := h
  rw [evalE] at ev
  split at ev
  · rename_i as e1 h1
    refine ⟨env, H0, as, e1, c, h1, fun vs H1 H01 p1 av => ?_⟩
    show spOf (cl.md f) (cl.run f) (vs ++ []) H1 Q E
    rw [List.append_nil]
    exact i_call p1.core av (by rw [av.len, evalA_len h1]) ev fun v H' H0' p2 q2 => k v H' H0' (p1.trans p2) (ResV.back p1 q2)
  · cases ev
end
end NG

/-! NG8: targets, what is walked, comprehensions. -/
namespace NG
open PySem L2

/-! ### slots that are stored -/
section
variable {σ σ' : L2.St} {env env' : NEnv} {H0 H H0' H' : Hp}
theorem okSt_nb {s : Sl} (h : okSt s = true) : (∀ ds, s ≠ .bo ds) ∧ ∀ ds, s ≠ .pm ds := by
  cases s with
  | un => exact ⟨fun _ e => (nomatch e), fun _ e => (nomatch e)⟩
  | im _ => exact ⟨fun _ e => (nomatch e), fun _ e => (nomatch e)⟩
  | mu _ => exact ⟨fun _ e => (nomatch e), fun _ e => (nomatch e)⟩
  | pm _ => cases h
  | bo _ => cases h
/-- a slot is stored: data -/
theorem Core.asg {i : Nat} {v : V} {d : D} (c : Core σ env H0 H) (r : Rep H0 v d) (h : asgN i d env = some env') : Post σ env H0 H (σ.set i (some v)) env' H0 H := by
  unfold asgN at h
  split at h
  · rename_i hi
    simp only [Bool.and_eq_true, decide_eq_true_eq] at hi
    obtain ⟨hi, ho⟩ := hi
    obtain ⟨nb, np⟩ := okSt_nb ho
    cases h
    have hs : i < σ.length := by rw [c.len]; exact hi
    have ne : ∀ j, cellD (getS (env.set i (.im d)) j) ≠ none → i ≠ j := fun j q z => by
      subst z
      rw [getS_set_same hi] at q
      exact q rfl
    refine ⟨⟨c.sub, by rw [List.length_set, List.length_set]; exact c.len, fun j d' q => ?_, fun j ds q => ?_, fun j k a q1 q2 q3 q4 => ?_⟩, .refl _, fun _ _ q _ => q, fun _ q => q, fun _ q => .inl q, fun a q => ?_, fun j ds q => ?_, fun j ds q => ?_⟩
    · by_cases hj : i = j
      · subst hj
        rw [getS_set_same hi] at q
        cases q
        exact ⟨v, List.getElem?_set_self hs, r⟩
      · rw [getS_set_ne hj] at q
        obtain ⟨x, q1, q2⟩ := c.im j d' q
        exact ⟨x, by rw [List.getElem?_set_ne hj]; exact q1, q2⟩
    · have hj := ne j (by rw [q]; exact fun z => nomatch z)
      rw [getS_set_ne hj] at q
      obtain ⟨a, ws, q1, q2⟩ := c.cell j ds q
      exact ⟨a, ws, by rw [List.getElem?_set_ne hj]; exact q1, q2⟩
    · have hj := ne j q1
      have hk := ne k q2
      rw [getS_set_ne hj] at q1
      rw [getS_set_ne hk] at q2
      rw [List.getElem?_set_ne hj] at q3
      rw [List.getElem?_set_ne hk] at q4
      exact c.inj j k a q1 q2 q3 q4
    · obtain ⟨j, ds, q1, q2⟩ := q
      have hj := ne j (by rw [q1]; exact fun z => nomatch z)
      rw [getS_set_ne hj] at q1
      rw [List.getElem?_set_ne hj] at q2
      exact .inl ⟨j, ds, q1, q2⟩
    · have hj : i ≠ j := fun z => by subst z; exact nb ds q
      exact ⟨by rw [getS_set_ne hj]; exact q, List.getElem?_set_ne hj⟩
    · have hj : i ≠ j := fun z => by subst z; exact np ds q
      exact ⟨⟨ds, by rw [getS_set_ne hj]; exact q⟩, List.getElem?_set_ne hj⟩
  · cases h
/-- a slot is stored: a new list -/
theorem Core.asgNew {i : Nat} {a : Addr} {ws : List V} {ds : List D} (c : Core σ env H0 H) (h1 : H a = some (.lst ws)) (h2 : H0 a = none) (l : ds.length ≤ 16777216) (r : Reps H0 ws ds) (n : ¬ IsCell env σ a) (hi : i < env.length) (ho : okSt (getS env i) = true) {H1 : Hp} (tr : H1 a = none)
    {σ0 : L2.St} {env0 : NEnv} {H00 : Hp} (p : Post σ0 env0 H00 H1 σ env H0 H) : Post σ0 env0 H00 H1 (σ.set i (some (.ref a))) (env.set i (.mu ds)) H0 H := by
  obtain ⟨nb, np⟩ := okSt_nb ho
  have hs : i < σ.length := by rw [c.len]; exact hi
  have cellc : ∀ j ds', i ≠ j → cellD (getS env j) = some ds' → σ[j]? ≠ some (some (.ref a)) := fun j ds' hj q z => n ⟨j, ds', q, z⟩
  refine ⟨⟨c.sub, by rw [List.length_set, List.length_set]; exact c.len, fun j d' q => ?_, fun j ds' q => ?_, fun j k b q1 q2 q3 q4 => ?_⟩, p.e0, p.fr, p.tr, p.nw, fun b q => ?_, fun j ds' q => ?_, fun j ds' q => ?_⟩
  · have hj : i ≠ j := fun z => by
      subst z
      rw [getS_set_same hi] at q
      cases q
    rw [getS_set_ne hj] at q
    obtain ⟨x, q1, q2⟩ := c.im j d' q
    exact ⟨x, by rw [List.getElem?_set_ne hj]; exact q1, q2⟩
  · by_cases hj : i = j
    · subst hj
      rw [getS_set_same hi] at q
      cases q
      exact ⟨a, ws, List.getElem?_set_self hs, h1, h2, l, r⟩
    · rw [getS_set_ne hj] at q
      obtain ⟨b, us, q1, q2⟩ := c.cell j ds' q
      exact ⟨b, us, by rw [List.getElem?_set_ne hj]; exact q1, q2⟩
  · by_cases hj : i = j
    · subst hj
      rw [List.getElem?_set_self hs] at q3
      cases q3
      by_cases hk : i = k
      · exact hk
      · rw [getS_set_ne hk] at q2
        rw [List.getElem?_set_ne hk] at q4
        cases w : cellD (getS env k) with
        | none => exact absurd w q2
        | some dk => exact absurd q4 (cellc k dk hk w)
    · rw [getS_set_ne hj] at q1
      rw [List.getElem?_set_ne hj] at q3
      by_cases hk : i = k
      · subst hk
        rw [List.getElem?_set_self hs] at q4
        cases q4
        cases w : cellD (getS env j) with
        | none => exact absurd w q1
        | some dk => exact absurd q3 (cellc j dk hj w)
      · rw [getS_set_ne hk] at q2
        rw [List.getElem?_set_ne hk] at q4
        exact c.inj j k b q1 q2 q3 q4
  · obtain ⟨j, ds', q1, q2⟩ := q
    by_cases hj : i = j
    · subst hj
      rw [List.getElem?_set_self hs] at q2
      cases q2
      exact .inr tr
    · rw [getS_set_ne hj] at q1
      rw [List.getElem?_set_ne hj] at q2
      exact p.ic b ⟨j, ds', q1, q2⟩
  · obtain ⟨q1, q2⟩ := p.pb j ds' q
    have hj : i ≠ j := fun z => by subst z; exact nb ds' q1
    exact ⟨by rw [getS_set_ne hj]; exact q1, by rw [List.getElem?_set_ne hj]; exact q2⟩
  · obtain ⟨⟨d1, q1⟩, q2⟩ := p.pp j ds' q
    have hj : i ≠ j := fun z => by subst z; exact np d1 q1
    exact ⟨⟨d1, by rw [getS_set_ne hj]; exact q1⟩, by rw [List.getElem?_set_ne hj]; exact q2⟩
end
def tgS : Tg → List Nat
  | .name i => [i]
  | .tup is => is
/-- off the slots -/
def Off (is : List Nat) (σ σ' : L2.St) : Prop := σ'.length = σ.length ∧ ∀ j, j ∉ is → σ'[j]? = σ[j]?
theorem Off.set {σ : L2.St} {i : Nat} {v : Option V} : Off [i] σ (σ.set i v) := ⟨List.length_set, fun j h => List.getElem?_set_ne fun e => h (by rw [e]; exact List.mem_cons_self)⟩
theorem Off.trans {σ σ1 σ2 : L2.St} {is js ks : List Nat} (a : Off is σ σ1) (b : Off js σ1 σ2) (h : ∀ j, j ∉ ks → j ∉ is ∧ j ∉ js) : Off ks σ σ2 := ⟨b.1.trans a.1, fun j q => (b.2 j (h j q).2).trans (a.2 j (h j q).1)⟩
def denTg (tg : Tg) : TG := fun v σ H Q => ∃ env H0 d env', Core σ env H0 H ∧ Rep H0 v d ∧ asgT tg d env = some env' ∧ ∀ σ', Post σ env H0 H σ' env' H0 H → Off (tgS tg) σ σ' → Q σ' H
def denTgs (is : List Nat) : TGs := fun vs σ H Q => ∃ env H0 ds env', Core σ env H0 H ∧ Reps H0 vs ds ∧ asgs is ds env = some env' ∧ ∀ σ', Post σ env H0 H σ' env' H0 H → Off is σ σ' → Q σ' H
theorem g_name {i : Nat} {v : V} {σ : L2.St} {H : Hp} {Q : L2.St → Hp → Prop} (h : denTg (.name i) v σ H Q) : gName i v σ H Q := by
  obtain ⟨env, H0, d, env', c, r, a, k⟩ := h
  exact k _ (c.asg r a) .set
theorem gs_nil {vs : List V} {σ : L2.St} {H : Hp} {Q : L2.St → Hp → Prop} (h : denTgs [] vs σ H Q) : gNil vs σ H Q := by
  obtain ⟨env, H0, ds, env', c, r, a, k⟩ := h
  cases r with
  | nil =>
    cases a
    exact ⟨rfl, k σ (.refl c) ⟨rfl, fun _ _ => rfl⟩⟩
  | cons _ _ => cases a
theorem gs_cons {i : Nat} {is : List Nat} {vs : List V} {σ : L2.St} {H : Hp} {Q : L2.St → Hp → Prop} (h : denTgs (i :: is) vs σ H Q) : gCons (denTg (.name i)) (denTgs is) vs σ H Q := by
  obtain ⟨env, H0, ds, env', c, r, a, k⟩ := h
  cases r with
  | nil => cases a
  | cons r1 r2 =>
    rename_i v us d es
    have a : (match asgN i d env with
      | some env' => asgs is es env'
      | none => none) = some env' := a
    split at a
    · rename_i e1 h1
      refine ⟨_, _, rfl, env, H0, d, e1, c, r1, h1, fun σ1 p1 o1 => ⟨e1, H0, es, env', p1.core, r2, a, fun σ2 p2 o2 => k σ2 (p1.trans p2) ?_⟩⟩
      exact o1.trans o2 fun j hj => ⟨fun z => hj (by rcases List.mem_singleton.mp z with rfl; exact List.mem_cons_self), fun z => hj (List.mem_cons_of_mem _ z)⟩
    · cases a
theorem asgs_len : ∀ {is : List Nat} {ds : List D} {env env' : NEnv}, asgs is ds env = some env' → ds.length = is.length
  | [], [], _, _, _ => rfl
  | i :: is, d :: ds, env, env', h => by
    have a : (match asgN i d env with
      | some env' => asgs is ds env'
      | none => none) = some env' := h
    split at a
    · rw [List.length_cons, List.length_cons, asgs_len a]
    · cases a
  | [], _ :: _, _, _, h => by cases h
  | _ :: _, [], _, _, h => by cases h
theorem g_tup {K : PySem.W.Frag} {is : List Nat} {v : V} {σ : L2.St} {H : Hp} {Q : L2.St → Hp → Prop} (h : denTg (.tup is) v σ H Q) : gTup K is.length (denTgs is) v σ H Q := by
  obtain ⟨env, H0, d, env', c, r, a, k⟩ := h
  cases d with
  | tuple ds =>
    cases r with
    | tup s l q => exact ⟨_, _, rfl, .inl (c.sub.rd s), by rw [q.len]; exact asgs_len (show asgs is ds env = some env' from a), env, H0, _, env', c, q, a, k⟩
  | none => cases a
  | bool _ => cases a
  | int _ => cases a
  | str _ => cases a
  | list _ => cases a
  | dict _ => cases a

/-! ### what is walked -/
def Wk (J : L2.It) (ds : List D) (b : Option Nat) (σ : L2.St) (H0' : Hp) : Prop := ∀ i H0 H σ' env, Core σ' env H0 H → Ex H0' H0 → (∀ j, b = some j → getS env j = .bo ds ∧ σ'[j]? = σ[j]?) →
  (∀ d, ds[i]? = some d → J.go i H ∧ ∀ x H', J.yld i H x H' → H' = H ∧ Rep H0 x d) ∧ (ds.length ≤ i → J.stop i H)
def denIt (ev : NEnv → Option (List D × Option Nat × NEnv)) : TI := fun σ H R => ∃ env H0 ds b env', Core σ env H0 H ∧ ev env = some (ds, b, env') ∧
  ∀ J H' H0', Post σ env H0 H σ env' H0' H' → Wk J ds b σ H0' → (∀ j, b = some j → cellD (getS env' j) = some ds) → R J H'
theorem wk_list {K : PySem.W.Frag} {a : Addr} {ws : List V} {ds : List D} {σ : L2.St} {H0' : Hp} (s : Rd H0' a (.lst ws)) (r : Reps H0' ws ds) : Wk (Itl K a) ds none σ H0' := fun i H0 H σ' env c e _ => by
  have s1 : SqL K H a ws := .inl (c.sub.rd (e.rd s))
  refine ⟨fun d hd => ?_, fun hl => ⟨ws, s1, by rw [r.len]; exact hl⟩⟩
  obtain ⟨v, h1, h2⟩ := r.get hd
  refine ⟨⟨ws, v, s1, h1⟩, fun x H' ⟨y1, y2⟩ => ⟨y1, ?_⟩⟩
  have := y2 ws s1
  rw [h1] at this
  cases this
  exact h2.mono e
theorem wk_tup {K : PySem.W.Frag} {a : Addr} {ws : List V} {ds : List D} {σ : L2.St} {H0' : Hp} (s : Rd H0' a (.tup ws)) (r : Reps H0' ws ds) : Wk (Itt K a) ds none σ H0' := fun i H0 H σ' env c e _ => by
  have s1 : SqT K H a ws := .inl (c.sub.rd (e.rd s))
  refine ⟨fun d hd => ?_, fun hl => ⟨ws, s1, by rw [r.len]; exact hl⟩⟩
  obtain ⟨v, h1, h2⟩ := r.get hd
  refine ⟨⟨ws, v, s1, h1⟩, fun x H' ⟨y1, y2⟩ => ⟨y1, ?_⟩⟩
  have := y2 ws s1
  rw [h1] at this
  cases this
  exact h2.mono e
theorem wk_slot {K : PySem.W.Frag} {a : Addr} {j : Nat} {ds : List D} {σ : L2.St} {H0' : Hp} (h : σ[j]? = some (some (.ref a))) : Wk (Itl K a) ds (some j) σ H0' := fun i H0 H σ' env c e hb => by
  obtain ⟨b1, b2⟩ := hb j rfl
  obtain ⟨b, ws, q1, q2, q3, l, r⟩ := c.cell j ds (by rw [b1]; rfl)
  rw [b2, h] at q1
  cases q1
  have s1 : SqL K H a ws := .inl (.inl q2)
  refine ⟨fun d hd => ?_, fun hl => ⟨ws, s1, by rw [r.len]; exact hl⟩⟩
  obtain ⟨v, h1, h2⟩ := r.get hd
  refine ⟨⟨ws, v, s1, h1⟩, fun x H' ⟨y1, y2⟩ => ⟨y1, ?_⟩⟩
  have := y2 ws s1
  rw [h1] at this
  cases this
  exact h2
theorem rng_get {f : Nat → D} {n i : Nat} {d : D} (h : ((List.range n).map f)[i]? = some d) : i < n ∧ d = f i := by
  rw [List.getElem?_map] at h
  obtain ⟨k, h1, rfl⟩ := map_some h
  obtain ⟨h2, h3⟩ := List.getElem?_eq_some_iff.mp h1
  rw [List.getElem_range] at h3
  rw [List.length_range] at h2
  subst h3
  exact ⟨h2, rfl⟩
theorem wk_r1 {n : Nat} {σ : L2.St} {H0' : Hp} : Wk (Itr 0 n) (rng1 n) none σ H0' := fun i H0 H σ' env c e _ => by
  refine ⟨fun d hd => ?_, fun hl => ?_⟩
  · obtain ⟨h1, rfl⟩ := rng_get hd
    refine ⟨h1, fun x H' ⟨y1, y2⟩ => ⟨y1, ?_⟩⟩
    rw [y2, Int.zero_add]
    exact .int _
  · unfold rng1 at hl
    rw [List.length_map, List.length_range] at hl
    exact hl
theorem wk_r2 {lo : Int} {n : Nat} {σ : L2.St} {H0' : Hp} : Wk (Itr lo n) (rng2 lo n) none σ H0' := fun i H0 H σ' env c e _ => by
  refine ⟨fun d hd => ?_, fun hl => ?_⟩
  · obtain ⟨h1, rfl⟩ := rng_get hd
    refine ⟨h1, fun x H' ⟨y1, y2⟩ => ⟨y1, ?_⟩⟩
    rw [y2]
    exact .int _
  · unfold rng2 at hl
    rw [List.length_map, List.length_range] at hl
    exact hl
theorem wk_rM {lo : Int} {n : Nat} {σ : L2.St} {H0' : Hp} : Wk (Itc lo (-1) n) (rngM lo n) none σ H0' := fun i H0 H σ' env c e _ => by
  refine ⟨fun d hd => ?_, fun hl => ?_⟩
  · obtain ⟨h1, rfl⟩ := rng_get hd
    refine ⟨h1, fun x H' ⟨y1, y2⟩ => ⟨y1, ?_⟩⟩
    have e : lo + (i : Int) * (-1) = lo - (i : Int) := by omega
    rw [y2, e]
    exact .int _
  · unfold rngM at hl
    rw [List.length_map, List.length_range] at hl
    exact hl
theorem bnd_of {i : Int} (h : bnd i = true) : -(2 ^ 62) ≤ i ∧ i < 2 ^ 62 := by
  unfold bnd at h
  simp only [Bool.and_eq_true, decide_eq_true_eq] at h
  exact h
section
variable {σ : L2.St} {H : Hp} {cl : CL} {R : L2.It → Hp → Prop}
theorem it_e {K : PySem.W.Frag} {a : E} (h : denIt (evalIt cl (.e a)) σ H R) : iList K (denB a (evalE cl a)) σ H R ∨ iTup K (denB a (evalE cl a)) σ H R := by
  obtain ⟨env, H0, ds, b, env', c, ev, k⟩ := h
  rw [evalIt] at ev
  split at ev
  · rename_i es e1 h1
    cases ev
    refine .inl ⟨env, H0, _, _, c, h1, fun v H' H0' p q => ?_⟩
    cases (show Rep H0' v (.list ds) from q) with
    | lst s l r => exact ⟨_, rfl, ⟨_, .inl (p.core.sub.rd s)⟩, k _ H' H0' p (wk_list s r) fun j e => nomatch e⟩
  · rename_i es e1 h1
    cases ev
    refine .inr ⟨env, H0, _, _, c, h1, fun v H' H0' p q => ?_⟩
    cases (show Rep H0' v (.tuple ds) from q) with
    | tup s l r => exact ⟨_, rfl, ⟨_, .inl (p.core.sub.rd s)⟩, k _ H' H0' p (wk_tup s r) fun j e => nomatch e⟩
  · rename_i j e1 h1
    have go : ∀ es, cellD (getS e1 j) = some es → (es, some j, e1) = (ds, b, env') → iList K (denB a (evalE cl a)) σ H R := fun es hc q => by
      cases q
      refine ⟨env, H0, _, _, c, h1, fun v H' H0' p q => ?_⟩
      have q : σ[j]? = some (some v) := q
      obtain ⟨x, ws, q1, q2, _⟩ := p.core.cell j _ hc
      rw [q] at q1
      cases q1
      exact ⟨_, rfl, ⟨_, .inl (.inl q2)⟩, k _ H' H0' p (wk_slot q) fun i e => by cases e; exact hc⟩
    split at ev
    · rename_i es hs
      exact .inl (go es (by rw [hs]; rfl) (Option.some.inj ev))
    · rename_i es hs
      exact .inl (go es (by rw [hs]; rfl) (Option.some.inj ev))
    · rename_i es hs
      exact .inl (go es (by rw [hs]; rfl) (Option.some.inj ev))
    · cases ev
  · cases ev
theorem it_r1 {a : E} (h : denIt (evalIt cl (.r1 a)) σ H R) : iRng1 (tCons (den (evalE cl a)) tNil) σ H R := by
  obtain ⟨env, H0, ds, b, env', c, ev, k⟩ := h
  rw [evalIt] at ev
  split at ev
  · rename_i n e1 h1
    split at ev
    · rename_i hb
      cases ev
      obtain ⟨b1, b2⟩ := bnd_of hb
      exact den_int c h1 fun H' H0' p => ⟨n, rfl, b1, b2, k _ H' H0' p wk_r1 fun j e => nomatch e⟩
    · cases ev
  · cases ev
theorem it_r2 {a b : E} (h : denIt (evalIt cl (.r2 a b)) σ H R) : iRng2 (tCons (den (evalE cl a)) (tCons (den (evalE cl b)) tNil)) σ H R := by
  obtain ⟨env, H0, ds, bb, env', c, ev, k⟩ := h
  rw [evalIt] at ev
  split at ev
  · rename_i lo e1 h1
    split at ev
    · rename_i hi e2 h2
      split at ev
      · rename_i hb
        cases ev
        rw [Bool.and_eq_true] at hb
        obtain ⟨b1, b2⟩ := bnd_of hb.1
        obtain ⟨b3, b4⟩ := bnd_of hb.2
        exact den_int c h1 fun H1 H01 p1 => den_int p1.core h2 fun H' H0' p => ⟨lo, hi, rfl, ⟨b1, b2, b3, b4⟩, k _ H' H0' (p1.trans p) wk_r2 fun j e => nomatch e⟩
      · cases ev
    · cases ev
  · cases ev
theorem it_r3 {a b s : E} (h : denIt (evalIt cl (.r3 a b s)) σ H R) : iRng3 (tCons (den (evalE cl a)) (tCons (den (evalE cl b)) (tCons (den (evalE cl s)) tNil))) σ H R := by
  obtain ⟨env, H0, ds, bb, env', c, ev, k⟩ := h
  rw [evalIt] at ev
  split at ev
  · rename_i lo e1 h1
    split at ev
    · rename_i hi e2 h2
      split at ev
      · rename_i st e3 h3
        split at ev
        · rename_i hb
          cases ev
          simp only [Bool.and_eq_true, decide_eq_true_eq] at hb
          obtain ⟨⟨hb1, hb2⟩, rfl⟩ := hb
          obtain ⟨b1, b2⟩ := bnd_of hb1
          obtain ⟨b3, b4⟩ := bnd_of hb2
          exact den_int c h1 fun H1 H01 p1 => den_int p1.core h2 fun H2 H02 p2 => den_int p2.core h3 fun H' H0' p => ⟨lo, hi, -1, _, rfl, RgC.neg b1 b2 b3 b4, k _ H' H0' ((p1.trans p2).trans p) wk_rM fun j e => nomatch e⟩
        · cases ev
      · cases ev
    · cases ev
  · cases ev
/-! ranges as tuples, as lists -/
theorem rgV_1 (n : Int) {H : Hp} : Reps H (rgV 0 n) (rng1 n.toNat) := by
  unfold rgV rng1
  rw [Int.sub_zero]
  have : ∀ l : List Nat, Reps H (l.map fun (i : Nat) => V.int (0 + (i : Int))) (l.map fun (i : Nat) => PyData.int (i : Int)) := fun l => by
    induction l with
    | nil => exact .nil
    | cons i l ih => rw [List.map_cons, List.map_cons, Int.zero_add]; exact .cons (.int _) ih
  exact this _
theorem rgV_2 (lo hi : Int) {H : Hp} : Reps H (rgV lo hi) (rng2 lo (hi - lo).toNat) := by
  unfold rgV rng2
  have : ∀ l : List Nat, Reps H (l.map fun (i : Nat) => V.int (lo + (i : Int))) (l.map fun (i : Nat) => PyData.int (lo + (i : Int))) := fun l => by
    induction l with
    | nil => exact .nil
    | cons i l ih => exact .cons (.int _) ih
  exact this _
variable {Q : VK}
theorem rg1 {a : E} {b : Bi} (h : den (evalE cl (.birng b (.r1 a))) σ H Q) : (b = .tuple → tTupRg (tRg1 (den (evalE cl a))) σ H Q) ∧ (b = .list → tLstRg (tRg1 (den (evalE cl a))) σ H Q) := by
  obtain ⟨env, H0, r, env', c, ev, k⟩ := h
  rw [evalE] at ev
  split at ev
  · rename_i ds bb e1 h1
    split at ev
    · rename_i hl
      obtain ⟨rv, ho, q⟩ := map_some ev
      cases q
      rw [evalIt] at h1
      split at h1
      · rename_i n e1 h2
        split at h1
        · rename_i hb
          cases h1
          obtain ⟨b1, b2⟩ := bnd_of hb
          have hlen : (n - 0).toNat ≤ 2 ^ 24 := by
            unfold rng1 at hl
            rw [List.length_map, List.length_range] at hl
            omega
          refine ⟨fun e => ?_, fun e => ?_⟩
          · subst e
            cases ho
            refine den_int c h2 fun H' H0' p => ⟨n, rfl, ⟨by omega, by omega, b1, b2, hlen⟩, fun q hq => ?_⟩
            have g : Grow H0' H' (upd H0' q (.tup (rgV 0 n))) (upd H' q (.tup (rgV 0 n))) := .tup p.core.sub hq
            exact k _ _ _ (p.grow g) (.tup (.inl upd_same) hl (rgV_1 n))
          · subst e
            cases ho
            refine den_int c h2 fun H' H0' p => ⟨n, rfl, ⟨by omega, by omega, b1, b2, hlen⟩, fun q hq => ?_⟩
            have g : Grow H0' H' H0' (upd H' q (.lst (rgV 0 n))) := .new p.core.sub hq
            exact k _ _ _ (p.grow g) (ResV.of p g ⟨q, _, rfl, hq, p.core.sub.back hq, upd_same, hl, rgV_1 n⟩)
        · cases h1
      · cases h1
    · cases ev
  · cases ev
theorem rg2 {a a2 : E} {b : Bi} (h : den (evalE cl (.birng b (.r2 a a2))) σ H Q) : (b = .tuple → tTupRg (tRg2 (den (evalE cl a)) (den (evalE cl a2))) σ H Q) ∧ (b = .list → tLstRg (tRg2 (den (evalE cl a)) (den (evalE cl a2))) σ H Q) := by
  obtain ⟨env, H0, r, env', c, ev, k⟩ := h
  rw [evalE] at ev
  split at ev
  · rename_i ds bb e1 h1
    split at ev
    · rename_i hl
      obtain ⟨rv, ho, q⟩ := map_some ev
      cases q
      rw [evalIt] at h1
      split at h1
      · rename_i lo e1 h2
        split at h1
        · rename_i hi e2 h3
          split at h1
          · rename_i hb
            cases h1
            rw [Bool.and_eq_true] at hb
            obtain ⟨b1, b2⟩ := bnd_of hb.1
            obtain ⟨b3, b4⟩ := bnd_of hb.2
            have hlen : (hi - lo).toNat ≤ 2 ^ 24 := by
              unfold rng2 at hl
              rw [List.length_map, List.length_range] at hl
              omega
            refine ⟨fun e => ?_, fun e => ?_⟩
            · subst e
              cases ho
              refine den_int c h2 fun H1 H01 p1 => den_int p1.core h3 fun H' H0' p => ⟨lo, hi, rfl, rfl, ⟨b1, b2, b3, b4, hlen⟩, fun q hq => ?_⟩
              have g : Grow H0' H' (upd H0' q (.tup (rgV lo hi))) (upd H' q (.tup (rgV lo hi))) := .tup p.core.sub hq
              exact k _ _ _ ((p1.trans p).grow g) (.tup (.inl upd_same) hl (rgV_2 lo hi))
            · subst e
              cases ho
              refine den_int c h2 fun H1 H01 p1 => den_int p1.core h3 fun H' H0' p => ⟨lo, hi, rfl, rfl, ⟨b1, b2, b3, b4, hlen⟩, fun q hq => ?_⟩
              have g : Grow H0' H' H0' (upd H' q (.lst (rgV lo hi))) := .new p.core.sub hq
              exact k _ _ _ ((p1.trans p).grow g) (ResV.of (p1.trans p) g ⟨q, _, rfl, hq, p.core.sub.back hq, upd_same, hl, rgV_2 lo hi⟩)
          · cases h1
        · cases h1
      · cases h1
    · cases ev
  · cases ev
end
end NG

/-! NG9: list comprehensions. -/
namespace NG
open PySem L2

theorem wipe_get (σ : L2.St) (j : Nat) : ∀ vs : List Nat, (wipe σ vs)[j]? = if j ∈ vs ∧ j < σ.length then some none else σ[j]?
  | [] => by simp [wipe]
  | v :: vs => by
    unfold wipe
    by_cases hj : v = j
    · subst hj
      by_cases hl : v < σ.length
      · rw [List.getElem?_set_self (by rw [wipe_length]; exact hl), if_pos ⟨List.mem_cons_self, hl⟩]
      · rw [if_neg fun z => hl z.2, List.getElem?_eq_none (by rw [List.length_set, wipe_length]; omega), List.getElem?_eq_none (by omega)]
    · rw [List.getElem?_set_ne hj, wipe_get σ j vs]
      by_cases hv : j ∈ vs ∧ j < σ.length
      · rw [if_pos hv, if_pos ⟨List.mem_cons_of_mem _ hv.1, hv.2⟩]
      · rw [if_neg hv, if_neg fun z => hv ⟨(List.mem_cons.mp z.1).resolve_left fun e => hj e.symm, z.2⟩]
theorem wipe_off {σ : L2.St} {j : Nat} {vs : List Nat} (h : j ∉ vs) : (wipe σ vs)[j]? = σ[j]? := by
  rw [wipe_get, if_neg fun z => h z.1]
theorem wipe_eq {σ σ' : L2.St} {is vs : List Nat} (o : Off is σ σ') (h : ∀ i ∈ is, i ∈ vs) : wipe σ' vs = wipe σ vs := by
  refine List.ext_getElem? fun j => ?_
  rw [wipe_get, wipe_get, o.1]
  by_cases hj : j ∈ vs ∧ j < σ.length
  · rw [if_pos hj, if_pos hj]
  · rw [if_neg hj, if_neg hj]
    by_cases hl : j < σ.length
    · exact o.2 j fun z => hj ⟨h j z, hl⟩
    · rw [List.getElem?_eq_none (by rw [o.1]; omega), List.getElem?_eq_none (by omega)]
theorem wipe_wipe {σ : L2.St} {vs : List Nat} : wipe (wipe σ vs) vs = wipe σ vs := by
  refine List.ext_getElem? fun j => ?_
  rw [wipe_get, wipe_length]
  by_cases hj : j ∈ vs ∧ j < σ.length
  · rw [if_pos hj, wipe_get, if_pos hj]
  · rw [if_neg hj]
theorem wipeE_len (env : NEnv) : ∀ vs : List Nat, (wipeE env vs).length = env.length
  | [] => rfl
  | v :: vs => by unfold wipeE; rw [List.length_set, wipeE_len env vs]
theorem getS_over {env : NEnv} {j : Nat} (h : env.length ≤ j) : getS env j = .un := by
  unfold getS
  rw [List.getElem?_eq_none h]
  rfl
theorem wipeE_get (env : NEnv) (j : Nat) : ∀ vs : List Nat, getS (wipeE env vs) j = if j ∈ vs then .un else getS env j
  | [] => by simp [wipeE]
  | v :: vs => by
    unfold wipeE
    by_cases hj : v = j
    · subst hj
      rw [if_pos List.mem_cons_self]
      by_cases hl : v < env.length
      · rw [getS_set_same (by rw [wipeE_len]; exact hl)]
      · exact getS_over (by rw [List.length_set, wipeE_len]; omega)
    · rw [getS_set_ne hj, wipeE_get env j vs]
      by_cases hv : j ∈ vs
      · rw [if_pos hv, if_pos (List.mem_cons_of_mem _ hv)]
      · rw [if_neg hv, if_neg fun z => hv ((List.mem_cons.mp z).resolve_left fun e => hj e.symm)]
theorem backE_len (old env : NEnv) : ∀ vs : List Nat, (backE old env vs).length = env.length
  | [] => rfl
  | v :: vs => by unfold backE; rw [List.length_set, backE_len old env vs]
theorem backE_get (old env : NEnv) (hl : old.length = env.length) (j : Nat) : ∀ vs : List Nat, getS (backE old env vs) j = if j ∈ vs then getS old j else getS env j
  | [] => by simp [backE]
  | v :: vs => by
    unfold backE
    by_cases hj : v = j
    · subst hj
      rw [if_pos List.mem_cons_self]
      by_cases hl' : v < env.length
      · rw [getS_set_same (by rw [backE_len]; exact hl')]
      · rw [getS_over (by rw [List.length_set, backE_len]; omega), getS_over (by omega)]
    · rw [getS_set_ne hj, backE_get old env hl j vs]
      by_cases hv : j ∈ vs
      · rw [if_pos hv, if_pos (List.mem_cons_of_mem _ hv)]
      · rw [if_neg hv, if_neg fun z => hv ((List.mem_cons.mp z).resolve_left fun e => hj e.symm)]
theorem noC_at {own : List Nat} {env : NEnv} (h : noC own env = true) {j : Nat} (hj : j ∈ own) : cellD (getS env j) = none := by
  unfold noC at h
  have := List.all_eq_true.mp h j hj
  exact Option.isNone_iff_eq_none.mp this

/-! locked slots -/
/-- the slot of env that is locked in env' -/
theorem lockE_get (b : Option Nat) (env : NEnv) (j : Nat) : (getS (lockE b env) j = getS env j) ∨ (b = some j ∧ ∃ ds, (getS env j = .mu ds ∨ getS env j = .pm ds) ∧ getS (lockE b env) j = .bo ds) := by
  cases b with
  | none => exact .inl rfl
  | some i =>
    have go : ∀ ds, (getS env i = .mu ds ∨ getS env i = .pm ds) → lockE (some i) env = env.set i (.bo ds) → (getS (lockE (some i) env) j = getS env j) ∨ ((some i) = some j ∧ ∃ ds, (getS env j = .mu ds ∨ getS env j = .pm ds) ∧ getS (lockE (some i) env) j = .bo ds) := fun ds h e => by
      have hi : i < env.length := getS_lt fun z => by rcases h with h | h <;> (rw [h] at z; cases z)
      rw [e]
      by_cases hj : i = j
      · subst hj
        exact .inr ⟨rfl, ds, h, getS_set_same hi⟩
      · exact .inl (getS_set_ne hj)
    cases h : getS env i with
    | mu ds => exact go ds (.inl h) (by unfold lockE; simp only [h])
    | pm ds => exact go ds (.inr h) (by unfold lockE; simp only [h])
    | un => exact .inl (by unfold lockE; simp only [h])
    | im _ => exact .inl (by unfold lockE; simp only [h])
    | bo _ => exact .inl (by unfold lockE; simp only [h])
theorem lockE_len (b : Option Nat) (env : NEnv) : (lockE b env).length = env.length := by
  unfold lockE
  split
  · rfl
  · split
    · exact List.length_set
    · exact List.length_set
    · rfl
theorem lockE_cell (b : Option Nat) (env : NEnv) (j : Nat) : cellD (getS (lockE b env) j) = cellD (getS env j) := by
  rcases lockE_get b env j with h | ⟨_, ds, h, h'⟩
  · rw [h]
  · rw [h']
    rcases h with h | h <;> rw [h] <;> rfl
theorem lockE_im {b : Option Nat} {env : NEnv} {j : Nat} {d : D} (h : getS (lockE b env) j = .im d) : getS env j = .im d := by
  rcases lockE_get b env j with e | ⟨_, ds, _, e⟩
  · rw [← e]; exact h
  · rw [e] at h; cases h
theorem lockE_bo {j : Nat} {env : NEnv} {ds : List D} (h : cellD (getS env j) = some ds) : getS (lockE (some j) env) j = .bo ds := by
  rcases lockE_get (some j) env j with e | ⟨_, es, h1, e⟩
  · rw [e]
    cases q : getS env j with
    | bo es => rw [q] at h; cases h; rfl
    | mu es =>
      exfalso
      have hj : j < env.length := getS_lt fun z => by rw [q] at z; cases z
      have z : lockE (some j) env = env.set j (.bo es) := by unfold lockE; simp only [q]
      rw [z, getS_set_same hj, q] at e
      cases e
    | pm es =>
      exfalso
      have hj : j < env.length := getS_lt fun z => by rw [q] at z; cases z
      have z : lockE (some j) env = env.set j (.bo es) := by unfold lockE; simp only [q]
      rw [z, getS_set_same hj, q] at e
      cases e
    | un => rw [q] at h; cases h
    | im _ => rw [q] at h; cases h
  · rw [e]
    rcases h1 with h1 | h1 <;> (rw [h1] at h; cases h; rfl)
theorem openE_get (b : Option Nat) (old env : NEnv) (hl : old.length = env.length) (j : Nat) : getS (openE b old env) j = if b = some j then getS old j else getS env j := by
  cases b with
  | none => rw [if_neg (fun z => nomatch z)]; rfl
  | some i =>
    have e : openE (some i) old env = env.set i (getS old i) := rfl
    rw [e]
    by_cases hj : i = j
    · subst hj
      rw [if_pos rfl]
      by_cases hi : i < env.length
      · exact getS_set_same hi
      · rw [getS_over (by rw [List.length_set]; omega), getS_over (by omega)]
    · rw [getS_set_ne hj, if_neg fun z => hj (Option.some.inj z)]
theorem openE_len (b : Option Nat) (old env : NEnv) : (openE b old env).length = env.length := by
  cases b with
  | none => rfl
  | some i => exact List.length_set

section
variable {σ σ' : L2.St} {env e1 e2 : NEnv} {H0 H H0' H' : Hp} {b : Option Nat} {own : List Nat}
/-- the block begins -/
theorem Core.blk (c : Core σ e1 H0 H) (hn : noC own e1 = true) : Core (wipe σ own) (wipeE (lockE b e1) own) H0 H := by
  refine ⟨c.sub, by rw [wipe_length, wipeE_len, lockE_len]; exact c.len, fun j d q => ?_, fun j ds q => ?_, fun i j a q1 q2 q3 q4 => ?_⟩
  · rw [wipeE_get] at q
    split at q
    · cases q
    · rename_i hj
      rw [wipe_off hj]
      exact c.im j d (lockE_im q)
  · rw [wipeE_get] at q
    split at q
    · cases q
    · rename_i hj
      rw [wipe_off hj]
      rw [lockE_cell] at q
      exact c.cell j ds q
  · rw [wipeE_get] at q1 q2
    split at q1
    · exact absurd rfl q1
    · split at q2
      · exact absurd rfl q2
      · rename_i hi hj
        rw [wipe_off hi] at q3
        rw [wipe_off hj] at q4
        rw [lockE_cell] at q1 q2
        exact c.inj i j a q1 q2 q3 q4
theorem isCell_blk {a : Addr} (h : IsCell (wipeE (lockE b e1) own) (wipe σ own) a) : IsCell e1 σ a := by
  obtain ⟨j, ds, q1, q2⟩ := h
  rw [wipeE_get] at q1
  split at q1
  · cases q1
  · rename_i hj
    rw [wipe_off hj] at q2
    rw [lockE_cell] at q1
    exact ⟨j, ds, q1, q2⟩
/-- the slots of a block are forgotten -/
theorem Core.wipe (c : Core σ env H0 H) (hn : noC own env = true) : Post σ env H0 H (L2.wipe σ own) (wipeE env own) H0 H := by
  have off : ∀ j, cellD (getS env j) ≠ none → j ∉ own := fun j q z => q (noC_at hn z)
  refine ⟨?_, .refl _, fun _ _ q _ => q, fun _ q => q, fun _ q => .inl q, fun a q => ?_, fun j ds q => ?_, fun j ds q => ?_⟩
  · have := Core.blk (b := none) c hn
    exact this
  · exact .inl (isCell_blk (b := none) q)
  · have hj := off j (by rw [q]; exact fun z => nomatch z)
    rw [wipeE_get, if_neg hj]
    exact ⟨q, wipe_off hj⟩
  · have hj := off j (by rw [q]; exact fun z => nomatch z)
    rw [wipeE_get, if_neg hj]
    exact ⟨⟨ds, q⟩, wipe_off hj⟩
/-- the block ends -/
theorem Post.blk (c : Core σ e1 H0 H) (hn : noC own e1 = true) (hw : okW b own = true) (hb : ∀ j, b = some j → ∃ ds, cellD (getS e1 j) = some ds) (p : Post (wipe σ own) (wipeE (lockE b e1) own) H0 H (wipe σ own) (wipeE e2 own) H0' H') :
    Post σ e1 H0 H σ (openE b e1 (backE e1 e2 own)) H0' H' ∧ ∀ a, ¬ IsCell (wipeE e2 own) (wipe σ own) a → ¬ IsCell e1 σ a → ¬ IsCell (openE b e1 (backE e1 e2 own)) σ a := by
  have hlen : e1.length = e2.length := by
    have h1 := p.core.len
    have h2 := c.len
    rw [wipe_length, wipeE_len] at h1
    omega
  have hlen2 : e1.length = (backE e1 e2 own).length := by rw [backE_len]; exact hlen
  have hbo : ∀ j, b = some j → j ∉ own := fun j e z => by
    subst e
    unfold okW at hw
    simp only [Bool.not_eq_true'] at hw
    rw [List.contains_iff_mem.mpr z] at hw
    cases hw
  have g : ∀ j, getS (openE b e1 (backE e1 e2 own)) j = if b = some j ∨ j ∈ own then getS e1 j else getS e2 j := fun j => by
    rw [openE_get _ _ _ hlen2]
    by_cases h1 : b = some j
    · rw [if_pos h1, if_pos (.inl h1)]
    · rw [if_neg h1, backE_get _ _ hlen]
      by_cases h2 : j ∈ own
      · rw [if_pos h2, if_pos (.inr h2)]
      · rw [if_neg h2, if_neg fun z => z.elim h1 h2]
  have gw : ∀ j, j ∉ own → getS (wipeE e2 own) j = getS e2 j := fun j h => by rw [wipeE_get, if_neg h]
  -- the walked slot, in the block
  have lk : ∀ j ds, b = some j → cellD (getS e1 j) = some ds → getS (wipeE e2 own) j = .bo ds := fun j ds e q => by
    have hj := hbo j e
    subst e
    have q2 : getS (wipeE (lockE (some j) e1) own) j = .bo ds := by
      rw [wipeE_get, if_neg hj]
      exact lockE_bo q
    exact (p.pb j ds q2).1
  have cells : ∀ j ds, cellD (getS (openE b e1 (backE e1 e2 own)) j) = some ds → j ∉ own ∧ cellD (getS (wipeE e2 own) j) = some ds := fun j ds q => by
    rw [g] at q
    split at q
    · rename_i h
      rcases h with h | h
      · have hj := hbo j h
        refine ⟨hj, ?_⟩
        rw [lk j ds h q]
        rfl
      · rw [noC_at hn h] at q; cases q
    · rename_i h
      have hj : j ∉ own := fun z => h (.inr z)
      exact ⟨hj, by rw [gw j hj]; exact q⟩
  refine ⟨⟨⟨p.core.sub, by rw [openE_len, ← hlen2]; exact c.len, fun j d q => ?_, fun j ds q => ?_, fun i j a q1 q2 q3 q4 => ?_⟩, p.e0, fun x o q n => p.fr x o q fun z => n (isCell_blk z), p.tr, fun x q => ?_, fun a q => ?_, fun j ds q => ?_, fun j ds q => ?_⟩, fun a n1 n2 q => ?_⟩
  · rw [g] at q
    split at q
    · obtain ⟨x, q1, q2⟩ := c.im j d q
      exact ⟨x, q1, q2.mono p.e0⟩
    · rename_i h
      have hj : j ∉ own := fun z => h (.inr z)
      rw [← gw j hj] at q
      have := p.core.im j d q
      rw [wipe_off hj] at this
      exact this
  · obtain ⟨hj, q1⟩ := cells j ds q
    have := p.core.cell j ds q1
    rw [wipe_off hj] at this
    exact this
  · cases w1 : cellD (getS (openE b e1 (backE e1 e2 own)) i) with
    | none => exact absurd w1 q1
    | some d1 =>
      cases w2 : cellD (getS (openE b e1 (backE e1 e2 own)) j) with
      | none => exact absurd w2 q2
      | some d2 =>
        obtain ⟨h1, k1⟩ := cells i d1 w1
        obtain ⟨h2, k2⟩ := cells j d2 w2
        exact p.core.inj i j a (by rw [k1]; exact fun z => nomatch z) (by rw [k2]; exact fun z => nomatch z) (by rw [wipe_off h1]; exact q3) (by rw [wipe_off h2]; exact q4)
  · rcases p.nw x q with z | z | z
    · exact .inl z
    · exact .inr (.inl z)
    · exact .inr (.inr (isCell_blk z))
  · obtain ⟨j, ds, q1, q2⟩ := q
    obtain ⟨hj, k⟩ := cells j ds q1
    rcases p.ic a ⟨j, ds, k, by rw [wipe_off hj]; exact q2⟩ with z | z
    · exact .inl (isCell_blk z)
    · exact .inr z
  · refine ⟨?_, rfl⟩
    rw [g]
    split
    · exact q
    · rename_i h
      have hj : j ∉ own := fun z => h (.inr z)
      have q2 : getS (wipeE (lockE b e1) own) j = .bo ds := by
        rw [wipeE_get, if_neg hj]
        rcases lockE_get b e1 j with e | ⟨e, _⟩
        · rw [e]; exact q
        · exact absurd (.inl e) h
      rw [← gw j hj]
      exact (p.pb j ds q2).1
  · refine ⟨?_, rfl⟩
    rw [g]
    split
    · exact ⟨ds, q⟩
    · rename_i h
      have hj : j ∉ own := fun z => h (.inr z)
      have q2 : getS (wipeE (lockE b e1) own) j = .pm ds := by
        rw [wipeE_get, if_neg hj]
        rcases lockE_get b e1 j with e | ⟨e, _⟩
        · rw [e]; exact q
        · exact absurd (.inl e) h
      rw [← gw j hj]
      exact (p.pp j ds q2).1
  · obtain ⟨j, ds, q1, q2⟩ := q
    obtain ⟨hj, k⟩ := cells j ds q1
    exact n1 ⟨j, ds, k, by rw [wipe_off hj]; exact q2⟩
/-- the new list of a comprehension grows -/
theorem Post.touch {a : Addr} {ws us : List V} (p : Post σ env H0 H σ' e2 H0' H') (h1 : H' a = some (.lst ws)) (h2 : H a = none) (h3 : H0' a = none) (n : ¬ IsCell e2 σ' a) : Post σ env H0 H σ' e2 H0' (upd H' a (.lst us)) := by
  refine ⟨⟨fun x o q => ?_, p.core.len, p.core.im, fun j ds q => ?_, p.core.inj⟩, p.e0, fun x o q z => ?_, fun x q => ?_, p.nw, p.ic, p.pb, p.pp⟩
  · have hx : x ≠ a := fun z => by subst z; rw [h3] at q; cases q
    rw [upd_ne hx]
    exact p.core.sub x o q
  · obtain ⟨x, vs, q1, q2, q3⟩ := p.core.cell j ds q
    have hx : x ≠ a := fun z => n ⟨j, ds, q, by rw [← z]; exact q1⟩
    exact ⟨x, vs, q1, by rw [upd_ne hx]; exact q2, q3⟩
  · have hx : x ≠ a := fun z => by subst z; rw [h2] at q; cases q
    rw [upd_ne hx]
    exact p.fr x o q z
  · by_cases hx : x = a
    · subst hx
      exact h2
    · rw [upd_ne hx] at q
      exact p.tr x q
end

/-! ### the comprehension -/
def denC (ev : NEnv → Option (Bool × NEnv)) : TT := fun σ H Q => ∃ env H0 b env', Core σ env H0 H ∧ ev env = some (b, env') ∧ ∀ H' H0', Post σ env H0 H σ env' H0' H' → Q b H'
theorem c_none {cl : CL} {σ : L2.St} {H : Hp} {Q : Bool → Hp → Prop} (h : denC (evalC cl .none) σ H Q) : tYes σ H Q := by
  obtain ⟨env, H0, b, env', c, ev, k⟩ := h
  rw [evalC] at ev
  cases ev
  exact k H H0 (.refl c)
theorem c_some {cl : CL} {e : E} {σ : L2.St} {H : Hp} {Q : Bool → Hp → Prop} (h : denC (evalC cl (.some e)) σ H Q) : denT (evalE cl e) σ H Q := by
  obtain ⟨env, H0, b, env', c, ev, k⟩ := h
  rw [evalC] at ev
  exact ⟨env, H0, b, env', c, ev, k⟩
/-- one turn -/
def lcTurn (tg : Tg) (own : List Nat) (c : NEnv → Option (Bool × NEnv)) (elt : NEnv → Option (RV × NEnv)) (d : D) (e : NEnv) : Option (List D × NEnv) :=
  if noC own e then match asgT tg d (wipeE e own) with
    | some e2 => match c e2 with
      | some (true, e3) => match elt e3 with
        | some (r, e4) => some ([r.d], e4)
        | none => none
      | some (false, e3) => some ([], e3)
      | none => none
    | none => none else none
theorem lc_noC {tg : Tg} {own : List Nat} {c : NEnv → Option (Bool × NEnv)} {elt : NEnv → Option (RV × NEnv)} {ds rs : List D} {e e2 : NEnv} (h : lcLoop (lcTurn tg own c elt) ds e = some (rs, e2)) (h2 : noC own e2 = true) : noC own e = true := by
  cases ds with
  | nil =>
    unfold lcLoop at h
    cases h
    exact h2
  | cons d ds =>
    unfold lcLoop at h
    split at h
    · rename_i q
      unfold lcTurn at q
      split at q
      · assumption
      · cases q
    · cases h
theorem i_comp {cl : CL} {elt : E} {tg : Tg} {it : It} {c : Oe} {own : List Nat} {σ : L2.St} {H : Hp} {Q : VK} (htg : tgIn own tg = true) (h : den (evalE cl (.comp elt tg it c own)) σ H Q) :
    tLc (denIt (evalIt cl it)) (denTg tg) (denC (evalC cl c)) (denD (evalE cl elt)) own σ H Q := by
  obtain ⟨env, H0, r, env', C, ev, k⟩ := h
  rw [evalE] at ev
  split at ev
  · rename_i ds b e1 hit
    split at ev
    · rename_i hok
      rw [Bool.and_eq_true] at hok
      obtain ⟨hw, hn1⟩ := hok
      split at ev
      · rename_i rs e2 hlc
        split at ev
        · rename_i hfin
          simp only [Bool.and_eq_true, decide_eq_true_eq] at hfin
          obtain ⟨hz, hn2⟩ := hfin
          cases ev
          have hlc : lcLoop (lcTurn tg own (evalC cl c) (evalE cl elt)) ds (lockE b e1) = some (rs, e2) := hlc
          refine ⟨env, H0, ds, b, e1, C, hit, fun J H1 H01 P1 wk hb Dn hD => ?_⟩
          have hbe : ∀ j, b = some j → ∃ es, cellD (getS e1 j) = some es := fun j e => ⟨ds, hb j e⟩
          have c0 : Core (wipe σ own) (wipeE (lockE b e1) own) H01 H1 := P1.core.blk hn1
          have hD0 : H01 Dn = none := P1.core.sub.back hD
          have nD0 : ¬ IsCell (wipeE (lockE b e1) own) (wipe σ own) Dn := fun z => by
            obtain ⟨us, q, _⟩ := c0.isc z
            rw [hD] at q; cases q
          -- the walked slot in the block's states
          have wb : ∀ {σ' : L2.St} {e' : NEnv} {Ha Hb : Hp}, Post (wipe σ own) (wipeE (lockE b e1) own) H01 H1 σ' e' Ha Hb → ∀ j, b = some j → getS e' j = .bo ds ∧ σ'[j]? = σ[j]? := fun {σ' e' Ha Hb} p j e => by
            have hj : j ∉ own := fun z => by
              subst e
              unfold okW at hw
              simp only [Bool.not_eq_true'] at hw
              rw [List.contains_iff_mem.mpr z] at hw
              cases hw
            have q : getS (wipeE (lockE b e1) own) j = .bo ds := by
              rw [wipeE_get, if_neg hj, e]
              exact lockE_bo (hb j e)
            obtain ⟨q1, q2⟩ := p.pb j ds q
            exact ⟨q1, by rw [q2, wipe_off hj]⟩
          refine ⟨fun i m H => m = ds.length - i ∧ i ≤ ds.length ∧ ∃ (ei : NEnv) (H0i : Hp) (acc : List D) (ws : List V) (rest : List D), Post (wipe σ own) (wipeE (lockE b e1) own) H01 H1 (wipe σ own) (wipeE ei own) H0i H ∧
              H Dn = some (.lst ws) ∧ H0i Dn = none ∧ ¬ IsCell (wipeE ei own) (wipe σ own) Dn ∧ Reps H0i ws acc ∧ lcLoop (lcTurn tg own (evalC cl c) (evalE cl elt)) (ds.drop i) ei = some (rest, e2) ∧ acc ++ rest = rs,
            ⟨ds.length, by simp, Nat.zero_le _, lockE b e1, H01, [], [], rs, (Post.refl c0).grow (.new c0.sub hD), upd_same, hD0, nD0, .nil, hlc, rfl⟩, ?_⟩
          rintro i m Hi ⟨rfl, hil, ei, H0i, acc, ws, rest, p, g1, g2, g3, g4, g5, g6⟩
          obtain ⟨w1, w2⟩ := wk i H0i Hi (wipe σ own) (wipeE ei own) p.core p.e0 (wb p)
          by_cases hlt : i < ds.length
          · -- one more
            refine .inr ?_
            have hd : ds[i]? = some ds[i] := List.getElem?_eq_getElem hlt
            have hdrop : ds.drop i = ds[i] :: ds.drop (i + 1) := List.drop_eq_getElem_cons hlt
            rw [hdrop] at g5
            unfold lcLoop at g5
            split at g5
            · rename_i xs e4 hturn
              split at g5
              · rename_i ys e5 hrest
                cases g5
                have hn4 : noC own e4 = true := lc_noC hrest hn2
                obtain ⟨go, yl⟩ := w1 _ hd
                unfold lcTurn at hturn
                split at hturn
                · rename_i hni
                  split at hturn
                  · rename_i ea hasg
                    -- the end of a turn: from a state behind it on
                    have fin : ∀ {σ2 : L2.St} {H4 H04 : Hp} {us : List V} {new : List D}, Post (wipe σ own) (wipeE ei own) H0i Hi σ2 e4 H04 H4 → wipe σ2 own = wipe σ own → xs = new → Reps H04 us new → (∃ m', m' < ds.length - i ∧ (m' = ds.length - (i + 1) ∧ i + 1 ≤ ds.length ∧ ∃ (ei : NEnv) (H0i : Hp) (acc' : List D) (ws' : List V) (rest : List D),
                        Post (wipe σ own) (wipeE (lockE b e1) own) H01 H1 (wipe σ own) (wipeE ei own) H0i (upd H4 Dn (.lst (ws ++ us))) ∧ (upd H4 Dn (.lst (ws ++ us))) Dn = some (.lst ws') ∧ H0i Dn = none ∧ ¬ IsCell (wipeE ei own) (wipe σ own) Dn ∧ Reps H0i ws' acc' ∧
                        lcLoop (lcTurn tg own (evalC cl c) (evalE cl elt)) (ds.drop (i + 1)) ei = some (rest, e2) ∧ acc' ++ rest = rs)) ∧ H4 Dn = some (.lst ws) := fun {σ2 H4 H04 us new} q hw2 hx hr => by
                      subst hx
                      have q1 : H4 Dn = some (.lst ws) := q.fr Dn _ g1 g3
                      have q2 : H04 Dn = none := by
                        cases z : H04 Dn with
                        | none => rfl
                        | some o =>
                          rcases q.nw Dn (by rw [z]; exact fun y => nomatch y) with y | y | y
                          · exact absurd g2 y
                          · rw [g1] at y; cases y
                          · exact absurd y g3
                      have q3 : ¬ IsCell e4 σ2 Dn := fun z => by
                        rcases q.ic Dn z with y | y
                        · exact g3 y
                        · rw [g1] at y; cases y
                      have pw := q.core.wipe hn4
                      rw [hw2] at pw
                      have q4 : ¬ IsCell (wipeE e4 own) (wipe σ own) Dn := fun z => by
                        rcases pw.ic Dn z with y | y
                        · exact q3 y
                        · rw [q1] at y; cases y
                      have pp := (p.trans q).trans pw
                      exact ⟨⟨_, by omega, rfl, hlt, e4, H04, acc ++ xs, ws ++ us, ys, pp.touch q1 hD q2 q4, upd_same, q2, q4, (g4.mono q.e0).app hr, hrest, by rw [List.append_assoc]; exact g6⟩, q1⟩
                    refine ⟨go, _, fun H' q => q, fun x H' y => ?_⟩
                    obtain ⟨rfl, rx⟩ := yl x H' y
                    refine ⟨wipeE ei own, H0i, _, ea, p.core, rx, hasg, fun σ2 pt off => ?_⟩
                    have hsub : ∀ j ∈ tgS tg, j ∈ own := fun j hj => by
                      cases tg with
                      | name n =>
                        rcases List.mem_singleton.mp hj with rfl
                        exact List.contains_iff_mem.mp htg
                      | tup is => exact List.contains_iff_mem.mp (List.all_eq_true.mp htg j hj)
                    have hw2 : wipe σ2 own = wipe σ own := (wipe_eq off hsub).trans wipe_wipe
                    refine ⟨hw2, ?_⟩
                    split at hturn
                    · rename_i e3 htest
                      split at hturn
                      · rename_i rv e4' helt
                        cases hturn
                        refine ⟨ea, H0i, true, e3, pt.core, htest, fun H3 H03 p3 => ?_⟩
                        refine iteT ?_
                        refine ⟨e3, H03, rv, e4, p3.core, helt, fun y H4 H04 p4 rep => ?_⟩
                        obtain ⟨f1, f2⟩ := fin (us := [y]) ((pt.trans p3).trans p4) hw2 rfl (.one rep)
                        refine ⟨ws, f2, ?_, f1⟩
                        have e3 := g4.len
                        have : acc.length + 1 ≤ rs.length := by
                          rw [← g6, List.length_append, List.length_append, List.length_singleton]
                          omega
                        rw [line_eq]
                        omega
                      · cases hturn
                    · rename_i e3 htest
                      cases hturn
                      refine ⟨ea, H0i, false, e4, pt.core, htest, fun H3 H03 p3 => ?_⟩
                      refine iteF ?_
                      obtain ⟨f1, f2⟩ := fin (us := []) (pt.trans p3) hw2 rfl .nil
                      rw [List.append_nil] at f1
                      have e : upd H3 Dn (.lst ws) = H3 := by
                        funext x
                        by_cases hx : x = Dn
                        · subst hx
                          rw [upd_same, f2]
                        · exact upd_ne hx
                      rw [e] at f1
                      exact f1
                    · cases hturn
                  · cases hturn
                · cases hturn
              · cases g5
            · cases g5
          · -- the end
            have hi : i = ds.length := by omega
            subst hi
            refine .inl ⟨w2 (Nat.le_refl _), ?_⟩
            rw [List.drop_length] at g5
            unfold lcLoop at g5
            cases g5
            rw [List.append_nil] at g6
            subst g6
            obtain ⟨pb1, pb2⟩ := Post.blk P1.core hn1 hw hbe p
            refine k _ Hi H0i (P1.trans pb1) ⟨Dn, ws, rfl, P1.tr Dn hD, g2, g1, hz, g4, ?_⟩
            refine pb2 Dn g3 fun z => ?_
            obtain ⟨us, q, _⟩ := P1.core.isc z
            rw [hD] at q; cases q
        · cases ev
      · cases ev
    · cases ev
  · cases ev
end NG

/-! NG10: what is read is what runs: expressions. -/
namespace NG
open PySem L2 PyProof.Rows

def bltNames : List Str := ["len", "sum", "all", "any", "min", "max", "abs", "int", "tuple", "list", "sorted", "str", "isinstance", "range", "bool", "set"]
structure Cxt (X : Cx) (g : SE) (cl : CL) (sc : Scope) : Prop where
  calm : X.calm = true
  nd : X.N.Nodup
  N : X.N = g.N
  sc : X.env.scope = sc
  cu : X.A.units + 65 < cLine
  blt : ∀ x, x ∈ bltNames → X.mg x = none
  fn : ∀ x id, g.fns.lookup x = some id → ∃ k f fd ps, FnOk X.prog X.w X.K X.mg X.base CX0 k f fd ps (spOf (cl.md id) (cl.run id)) ∧ Room k X.A ∧ X.mg x = some (.ref f) ∧ PySem.W.keepIn X.K (.ref f) = true ∧ Binds X.K fd ps [] ∧ (x == ("__debug__" : Str)) = false
theorem ixOf_get {x : Str} : ∀ {N : List Str} {j i : Nat}, ixOf x N j = some i → ∃ m, i = j + m ∧ N[m]? = some x
  | [], _, _, h => by cases h
  | y :: ys, j, i, h => by
    unfold ixOf at h
    split at h
    · rename_i e
      cases h
      exact ⟨0, rfl, by rw [e]; rfl⟩
    · obtain ⟨m, h1, h2⟩ := ixOf_get h
      exact ⟨m + 1, by omega, h2⟩
theorem ixOf_at {x : Str} {N : List Str} {i : Nat} (h : ixOf x N 0 = some i) : N[i]? = some x := by
  obtain ⟨m, h1, h2⟩ := ixOf_get h
  have : i = m := by omega
  rw [this]
  exact h2
theorem vis_ok {sc : Scope} {x : Str} (h : vis sc x = true) : Vis sc x := by
  unfold vis at h
  unfold Vis
  split at h
  · rename_i e; exact .inl e
  · rename_i e; exact .inr (.inl e)
  · rename_i e; exact .inr (.inr e)
  · cases h
theorem gl_ok {sc : Scope} {x : Str} (h : gl sc x = true) : sc.names.lookup x = some .globalImplicit := by
  unfold gl at h
  split at h
  · assumption
  · cases h
theorem loc_ok {sc : Scope} {fn : Str → Bool} {x : Str} (h : locN sc fn x = true) : L2.Loc sc x ∧ (fn x = true ∨ sc.names.lookup x = some .local) := by
  unfold locN at h
  unfold L2.Loc
  split at h
  · rename_i e; exact ⟨.inl e, .inr e⟩
  · rename_i e; exact ⟨.inr e, .inl h⟩
  · cases h
theorem no_star {g : SE} {n : Nat} {sc : Scope} {e : Expr} {e' : E} (h : cE g n sc e = some e') (es : List Expr) (env : Env) : starEach (e :: es) env = (false, eval e env) :: starEach es env := by
  cases e <;> first | rfl | (cases n <;> (unfold cE at h; cases h))
theorem no_set {g : SE} {n : Nat} {sc : Scope} {e : Expr} {e' : E} (h : cE g n sc e = some e') (op : CmpOp) : behindInMarks op e = false := by
  cases e <;> first | rfl | (cases n <;> (unfold cE at h; cases h))
theorem no_setF {g : SE} {n : Nat} {sc : Scope} {e : Expr} {e' : E} (h : cE g n sc e = some e') (env : Env) (x : Value) : foldedSetIterable e env x = pure x := by
  cases e <;> first | rfl | (cases n <;> (unfold cE at h; cases h))
theorem no_slice {g : SE} {n : Nat} {sc : Scope} {e : Expr} {e' : E} (h : cE g n sc e = some e') : PlainIx e := by
  cases e <;> first | (intro _ _; rfl) | (cases n <;> (unfold cE at h; cases h))
theorem consE_some {a : Option E} {b : Option Es} {r : Es} (h : consE a b = some r) : ∃ e es, a = some e ∧ b = some es ∧ r = .cons e es := by
  unfold consE at h
  split at h
  · cases h; exact ⟨_, _, rfl, rfl, rfl⟩
  · cases h
theorem no_stars {g : SE} {sc : Scope} : ∀ {es : List Expr} {n : Nat} {es' : Es}, cEs g n sc es = some es' → ∀ (pos : Pos) (env : Env), (backTo pos (starEach es env)).any (·.1) = false
  | [], _, _, _, _, _ => rfl
  | e :: es, 0, _, h, _, _ => by unfold cEs at h; cases h
  | e :: es, n + 1, _, h, pos, env => by
    unfold cEs at h
    obtain ⟨e1, es1, h1, h2, _⟩ := consE_some h
    rw [no_star h1]
    show (false || (backTo pos (starEach es env)).any (·.1)) = false
    rw [no_stars h2 pos env]
    rfl
theorem rgOf_some {e : Expr} {as : List Expr} (h : rgOf e = some as) : ∃ p q, e = .Call (.Name "range" p) as [] q := by
  unfold rgOf at h
  split at h
  · split at h
    · rename_i hx
      cases h
      subst hx
      exact ⟨_, _, rfl⟩
    · cases h
  · cases h
theorem no_setI {g : SE} {n : Nat} {sc : Scope} {e : Expr} {e' : It} (h : cIt g n sc e = some e') (env : Env) (x : Value) : foldedSetIterable e env x = pure x := by
  cases n with
  | zero => unfold cIt at h; cases h
  | succ n =>
    unfold cIt at h
    split at h
    · obtain ⟨z, h1, _⟩ := map_some h
      exact no_setF h1 env x
    · rename_i as q
      obtain ⟨_, _, rfl⟩ := rgOf_some q
      rfl

/-! builtins' names -/
def bltOk (x : Str) : Bool := decide (x ∈ bltNames) && decide (x ≠ "__name__") && !(x == ("__debug__" : Str))
theorem bltOk_ok {x : Str} (h : bltOk x = true) : x ∈ bltNames ∧ x ≠ "__name__" ∧ (x == ("__debug__" : Str)) = false := by
  unfold bltOk at h
  simp only [Bool.and_eq_true, decide_eq_true_eq, Bool.not_eq_true'] at h
  exact ⟨h.1.1, h.1.2, h.2⟩
theorem biTab_ok : (biTab.all fun p => decide (bootBuiltins p.1 = some (biV p.2)) && bltOk p.1) = true := by decide +kernel
theorem tyTab_ok : (tyTab.all fun p => decide (bootBuiltins p.1 = some (.type (tyS p.2))) && bltOk p.1 && decide (p.2 ≠ .none)) = true := by decide +kernel
theorem biOf_ok {x : Str} {b : Bi} (h : biOf x = some b) : bootBuiltins x = some (biV b) ∧ x ∈ bltNames ∧ x ≠ "__name__" ∧ (x == ("__debug__" : Str)) = false := by
  have q := List.all_eq_true.mp biTab_ok _ (PySem.mem_of_lookup h)
  rw [Bool.and_eq_true] at q
  exact ⟨of_decide_eq_true q.1, bltOk_ok q.2⟩
theorem tyOf_ok {x : Str} {t : Ty} (h : tyOf x = some t) : bootBuiltins x = some (.type (tyS t)) ∧ x ∈ bltNames ∧ x ≠ "__name__" ∧ (x == ("__debug__" : Str)) = false ∧ t ≠ .none := by
  have q := List.all_eq_true.mp tyTab_ok _ (PySem.mem_of_lookup h)
  rw [Bool.and_eq_true, Bool.and_eq_true] at q
  obtain ⟨a, b, c⟩ := bltOk_ok q.1.2
  exact ⟨of_decide_eq_true q.1.1, a, b, c, of_decide_eq_true q.2⟩
theorem biTab_tl : (biTab.all fun p => (!decide (p.2 = .tuple) || decide (p.1 = "tuple")) && (!decide (p.2 = .list) || decide (p.1 = "list"))) = true := by decide +kernel
theorem biOf_tuple {x : Str} (h : biOf x = some .tuple) : x = "tuple" := by
  have q := List.all_eq_true.mp biTab_tl _ (PySem.mem_of_lookup h)
  simpa using q
theorem biOf_list {x : Str} (h : biOf x = some .list) : x = "list" := by
  have q := List.all_eq_true.mp biTab_tl _ (PySem.mem_of_lookup h)
  simpa using q
theorem biTab_so : (biTab.all fun p => (!decide (p.2 = .sorted) || decide (p.1 = "sorted"))) = true := by decide +kernel
theorem biOf_sorted {x : Str} (h : biOf x = some .sorted) : x = "sorted" := by
  have q := List.all_eq_true.mp biTab_so _ (PySem.mem_of_lookup h)
  simpa using q
theorem bootR : bootBuiltins "range" = some (.type "range") := by decide +kernel
theorem bootI : bootBuiltins "isinstance" = some (.builtin "isinstance") := by decide +kernel
section
variable {X : Cx} {g : SE} {cl : CL} {sc : Scope}
theorem Cxt.gl (C : Cxt X g cl sc) {x : Str} (h : NG.gl sc x = true) : Gl X x := by
  show X.env.scope.names.lookup x = _
  rw [C.sc]
  exact gl_ok h
theorem pe_bi {x : Str} {b : Bi} {r : List V → Hp → VK → Prop} {e : Expr} {es : List Expr} {t : TA} {p pos : Pos} (C : Cxt X g cl sc) (hg : NG.gl sc x = true) (h : biOf x = some b) (hr : CallR X (biV b) r) (ha : PA X (e :: es) t)
    (he : starEach (e :: es) X.env = (false, eval e X.env) :: starEach es X.env) (hpl : (backTo pos (starEach es X.env)).any (·.1) = false) : PE X (.Call (.Name x p) (e :: es) [] pos) (tCB r t) := by
  obtain ⟨h1, h2, h3, h4⟩ := biOf_ok h
  have hm := C.blt x h2
  cases b <;> first
    | exact pe_callB hr (C.gl hg) hm h1 ha h3 h4 he hpl
    | exact pe_callTy hr (C.gl hg) hm h1 ha h3 h4 he hpl
/-- an IfExp as a test -/
theorem pt_ifExp {c a b : Expr} {tc ta tb : TT} {pos : Pos} (hc : PT X c tc) (ha : PT X a ta) (hb : PT X b tb) : PT X (.IfExp c a b pos) (fun σ H Q => tc σ H fun k H1 => if k = true then ta σ H1 Q else tb σ H1 Q) := by
  refine ⟨fun pins s σ H Q I h => ?_⟩
  show wpAny _ _ (do if ← isTrue c X.env (eval c X.env) then isTrue a X.env (eval a X.env) else isTrue b X.env (eval b X.env)) _ _ s
  refine wpAny_bind (thn (hc.run pins s σ H _ I h) fun d s1 ⟨H1, I1, q1⟩ => ?_)
  cases d with
  | true => exact ha.run pins s1 σ H1 Q I1 q1
  | false => exact hb.run pins s1 σ H1 Q I1 q1
theorem t_ite {σ : L2.St} {H : Hp} {Q : Bool → Hp → Prop} {c a b : E} (h : denT (evalE cl (.ite c a b)) σ H Q) : denT (evalE cl c) σ H fun k H1 => if k = true then denT (evalE cl a) σ H1 Q else denT (evalE cl b) σ H1 Q := by
  obtain ⟨env, H0, r, env', C, ev, k⟩ := h
  have ev := tst_some ev
  rw [evalE] at ev
  split at ev
  · rename_i e1 h1
    refine ⟨env, H0, true, e1, C, h1, fun H' H0' p => ?_⟩
    exact iteT ⟨e1, H0', r, env', p.core, tst_of ev, fun H2 H02 p2 => k H2 H02 (p.trans p2)⟩
  · rename_i e1 h1
    refine ⟨env, H0, false, e1, C, h1, fun H' H0' p => ?_⟩
    exact iteF ⟨e1, H0', r, env', p.core, tst_of ev, fun H2 H02 p2 => k H2 H02 (p.trans p2)⟩
  · cases ev

/-! targets -/
theorem pg_of {fn : Str → Bool} (hN : X.N = g.N) (nd : X.N.Nodup) (hsc : X.env.scope = sc) (hfn : ∀ x, fn x = true → X.fn x = true) {x : Str} {i : Nat} {p : Pos} (h : slotT g sc fn x = some i) : PG X (.Name x p) (denTg (.name i)) := by
  unfold slotT at h
  split at h
  · rename_i hl
    obtain ⟨l1, l2⟩ := loc_ok hl
    exact pgI (pg_name nd (by rw [hN]; exact ixOf_at h) (by rw [hsc]; exact l1) (by rw [hsc]; exact l2.imp (hfn x) id)) fun v σ H Q q => g_name q
  · cases h
theorem tgNs_ok {fn : Str → Bool} (hN : X.N = g.N) (nd : X.N.Nodup) (hsc : X.env.scope = sc) (hfn : ∀ x, fn x = true → X.fn x = true) : ∀ {es : List Expr} {is : List Nat}, tgNs g sc fn es = some is →
    PGs X es (denTgs is) ∧ (assignEach es X.env).length = is.length ∧ (assignEach es X.env).findIdx? (·.1) = none
  | [], is, h => by
    cases h
    exact ⟨pgsI pgs_nil fun _ _ _ _ q => gs_nil q, rfl, rfl⟩
  | .Name x p :: r, is, h => by
    unfold tgNs at h
    split at h
    · rename_i i is' h1 h2
      cases h
      obtain ⟨k1, k2, k3⟩ := tgNs_ok hN nd hsc hfn h2
      refine ⟨pgsI (pgs_cons (pg_of hN nd hsc hfn h1) k1) fun _ _ _ _ q => gs_cons q, ?_, ?_⟩
      · show (assignEach r X.env).length + 1 = is'.length + 1
        rw [k2]
      · show ((false, assign (.Name x p) X.env) :: assignEach r X.env).findIdx? (·.1) = none
        rw [List.findIdx?_cons, k3]
        rfl
    · cases h
theorem cTg_ok {fn : Str → Bool} (hc : X.calm = true) (hN : X.N = g.N) (nd : X.N.Nodup) (hsc : X.env.scope = sc) (hfn : ∀ x, fn x = true → X.fn x = true) {e : Expr} {tg : Tg} (h : cTg g sc fn e = some tg) : PG X e (denTg tg) := by
  unfold cTg at h
  split at h
  · obtain ⟨i, h1, rfl⟩ := map_some h
    exact pg_of hN nd hsc hfn h1
  · obtain ⟨is, h1, rfl⟩ := map_some h
    obtain ⟨k1, k2, k3⟩ := tgNs_ok hN nd hsc hfn h1
    exact pgI (pg_tup hc k1 rfl k3) fun v σ H Q q => by rw [k2]; exact g_tup q
  · cases h

/-- what the reading of a tree promises -/
structure ESnd (X : Cx) (cl : CL) (e : Expr) (e' : E) : Prop where
  v : PE X e (den (evalE cl e'))
  t : PT X e (denT (evalE cl e'))
  s : ∀ i, e' = .var i → PE X e (tVar i)
  w : (∃ op vs p, e = .BoolOp op vs p) → PW X e (denT (evalE cl e'))
theorem ESnd.b {e : Expr} {e' : E} (h : ESnd X cl e e') : PE X e (denB e' (evalE cl e')) := by
  by_cases q : ∃ i, e' = .var i
  · obtain ⟨i, rfl⟩ := q
    exact peI (h.s i rfl) fun _ _ _ z => i_varB z
  · exact peI h.v fun _ _ _ z => i_B (fun i e => q ⟨i, e⟩) z
theorem ESnd.av {e : Expr} {e' : E} (h : ESnd X cl e e') (m : Bool) : PE X e (denAV m e' (evalE cl e')) := by
  by_cases q : ∃ i, e' = .var i
  · obtain ⟨i, rfl⟩ := q
    exact peI (h.s i rfl) fun _ _ _ z => i_avV z
  · exact peI h.v fun _ _ _ z => i_av (fun i e => q ⟨i, e⟩) z
/-- a value that is no variable, as a test too -/
theorem ESnd.mk' {e : Expr} {e' : E} (h : PE X e (den (evalE cl e'))) (hv : ∀ i, e' ≠ .var i) (ht : ∀ whole, isTrue e X.env whole = (do let v ← whole; standAt e.pos; holding [v] (truthy v))) (hb : ∀ op vs p, e ≠ .BoolOp op vs p) : ESnd X cl e e' :=
  ⟨h, ptI (pt_val h ht) fun _ _ _ z => t_val z, fun i e => absurd e (hv i), fun ⟨op, vs, p, e⟩ => absurd e (hb op vs p)⟩
end
end NG

/-! NG11: what is read is what runs: the induction over expressions. -/
namespace NG
open PySem L2 PyProof.Rows

structure Snd (g : SE) (cl : CL) (n : Nat) : Prop where
  e : ∀ {X : Cx} {sc : Scope} {e : Expr} {e' : E}, Cxt X g cl sc → cE g n sc e = some e' → ESnd X cl e e'
  es : ∀ {X : Cx} {sc : Scope} {es : List Expr} {es' : Es}, Cxt X g cl sc → cEs g n sc es = some es' → PA X es (denEs (evalEs cl es')) ∧ ∀ md, PA X es (denA (evalA cl md es'))
  o : ∀ {X : Cx} {sc : Scope} {o : Option Expr} {o' : Oe}, Cxt X g cl sc → cO g n sc o = some o' → PO X o (denO (evalO cl o'))
  c : ∀ {X : Cx} {sc : Scope} {es : List Expr} {c' : Oe}, Cxt X g cl sc → cIf g n sc es = some c' → PTs X es (denC (evalC cl c'))
  it : ∀ {X : Cx} {sc : Scope} {tg e : Expr} {it' : It}, Cxt X g cl sc → cIt g n sc e = some it' → PI X tg e (denIt (evalIt cl it'))

section
variable {X : Cx} {g : SE} {cl : CL} {sc : Scope}
theorem piOr {tg e : Expr} {w1 w2 : TI} (h1 : PI X tg e w1) (h2 : PI X tg e w2) : PI X tg e (fun σ H R => w1 σ H R ∨ w2 σ H R) :=
  ⟨fun pins s σ H R I h => h.elim (h1.run pins s σ H R I) (h2.run pins s σ H R I)⟩
theorem pi_e {tg e : Expr} {a : E} (h : ESnd X cl e a) : PI X tg e (denIt (evalIt cl (.e a))) :=
  piI (piOr (pi_list h.b) (pi_tup h.b)) fun _ _ _ z => it_e z
theorem Cxt.blk (C : Cxt X g cl sc) (s : Shared) (H : Hp) (scope : Scope) (A : Addr) (ce : List (Str × Addr)) (fp : List Addr) : Cxt (X.blk s H scope (compEnvC scope ce A X.env) fp) g cl (relS scope sc) := by
  refine ⟨C.calm, C.nd, C.N, ?_, C.cu, C.blt, C.fn⟩
  show relS scope X.env.scope = _
  rw [C.sc]
theorem e_name {x : Str} {p : Pos} {i : Nat} (C : Cxt X g cl sc) (h : slotN g sc x = some i) : PE X (.Name x p) (tVar i) := by
  unfold slotN at h
  split at h
  · rename_i hp
    rw [Bool.and_eq_true] at hp
    obtain ⟨h1, h2⟩ := hp
    unfold plainName at h1
    simp only [Bool.and_eq_true, Bool.not_eq_true'] at h1
    exact pe_var (by rw [C.N]; exact ixOf_at h) (by rw [C.sc]; exact vis_ok h2) h1.1 h1.2
  · cases h
theorem e_var' {x : Str} {p : Pos} {i : Nat} (C : Cxt X g cl sc) (h : slotN g sc x = some i) : ESnd X cl (.Name x p) (.var i) := by
  have q := e_name (p := p) C h
  refine ⟨peI q fun _ _ _ z => i_var z, ?_, fun j e => by cases e; exact q, fun ⟨_, _, _, e⟩ => by cases e⟩
  exact ptI (pt_val (peI q fun _ _ _ z => i_var z)) fun _ _ _ z => t_val z
theorem dat_den {d : D} {v : V} {e' : E} {Q : VK} {σ : L2.St} {H : Hp} (he : ∀ env, evalE cl e' env = some (.dat d, env)) (hr : ∀ H0, Rep H0 v d) (h : den (evalE cl e') σ H Q) : tC v σ H Q := by
  obtain ⟨env, H0, r, env', c, ev, k⟩ := h
  rw [he] at ev
  cases ev
  exact k v H H0 (.refl c) (hr H0)
theorem e_cN {k : Nat} {p : Pos} : ESnd X cl (.Constant .none k p) .cN :=
  .mk' (peI pe_non fun _ _ _ z => dat_den (fun env => by rw [evalE]) (fun _ => .non) z) (fun _ e => (nomatch e)) (fun _ => rfl) (fun _ _ _ e => (nomatch e))
theorem e_cB {k : Nat} {b : Bool} {p : Pos} : ESnd X cl (.Constant (.bool b) k p) (.cB b) :=
  .mk' (peI pe_bl fun _ _ _ z => dat_den (fun env => by rw [evalE]) (fun _ => .bl b) z) (fun _ e => (nomatch e)) (fun _ => rfl) (fun _ _ _ e => (nomatch e))
theorem e_cI {k : Nat} {i : Int} {p : Pos} : ESnd X cl (.Constant (.int i) k p) (.cI i) :=
  .mk' (peI pe_int fun _ _ _ z => dat_den (fun env => by rw [evalE]) (fun _ => .int i) z) (fun _ e => (nomatch e)) (fun _ => rfl) (fun _ _ _ e => (nomatch e))
theorem e_cS {k : Nat} {s : Str} {p : Pos} : ESnd X cl (.Constant (.str s) k p) (.cS s) := by
  refine .mk' (peI pe_str fun σ H Q z => ?_) (fun _ e => (nomatch e)) (fun _ => rfl) (fun _ _ _ e => (nomatch e))
  obtain ⟨env, H0, r, env', c, ev, k⟩ := z
  rw [evalE] at ev
  split at ev
  · rename_i h
    simp only [Bool.and_eq_true, decide_eq_true_eq] at h
    cases ev
    exact k _ H H0 (.refl c) (.str s h.1 h.2)
  · cases ev
theorem e_bin {a b : Expr} {a' b' : E} {o : Operator} {p : Op} {pos : Pos} (h : opOf o = some p) (ha : ESnd X cl a a') (hb : ESnd X cl b b') : ESnd X cl (.BinOp a o b pos) (.bin p a' b') :=
  .mk' (peI (pe_op (o_bin h) ha.b hb.b) fun _ _ _ z => i_op z) (fun _ e => (nomatch e)) (fun _ => rfl) (fun _ _ _ e => (nomatch e))
theorem e_cmp {a b : Expr} {a' b' : E} {o : CmpOp} {pos : Pos} (C : Cxt X g cl sc) (ha : ESnd X cl a a') (hb : ESnd X cl b b') (hm : behindInMarks o b = false) : ESnd X cl (.Compare a [o] [b] pos) (.bin (cmpOf o) a' b') :=
  ⟨peI (pe_cmpR (o_cmp C.cu o) ha.b hb.b hm) fun _ _ _ z => i_op z, ptI (pt_cmpR (o_cmp C.cu o) ha.b hb.b hm) fun _ _ _ z => i_op (t_den z), fun _ e => (nomatch e), fun ⟨_, _, _, e⟩ => (nomatch e)⟩
theorem e_chain {a b c : Expr} {a' b' c' : E} {o o' : CmpOp} {pos : Pos} (C : Cxt X g cl sc) (ha : ESnd X cl a a') (hb : ESnd X cl b b') (hc : ESnd X cl c c') (hm : behindInMarks o' c = false) :
    ESnd X cl (.Compare a [o, o'] [b, c] pos) (.chain (cmpOf o) (cmpOf o') a' b' c') :=
  ⟨peI (pe_chain (o_cmp C.cu o) (o_cmp C.cu o') ha.b hb.b hc.b hm) fun _ _ _ z => i_chain z, ptI (pt_chain (o_cmp C.cu o) (o_cmp C.cu o') ha.b hb.b hc.b hm) fun _ _ _ z => i_chain (t_den z), fun _ e => (nomatch e), fun ⟨_, _, _, e⟩ => (nomatch e)⟩
theorem e_neg {a : Expr} {a' : E} {pos : Pos} (ha : ESnd X cl a a') : ESnd X cl (.UnaryOp .USub a pos) (.neg a') :=
  .mk' (peI (pe_un un_neg ha.v) fun _ _ _ z => i_neg z) (fun _ e => (nomatch e)) (fun _ => rfl) (fun _ _ _ e => (nomatch e))
theorem e_not {a : Expr} {a' : E} {pos : Pos} (ha : ESnd X cl a a') : ESnd X cl (.UnaryOp .Not a pos) (.not a') :=
  ⟨peI (pe_not ha.v) fun _ _ _ z => i_not z, ptI (pt_not ha.t) fun _ _ _ z => t_not z, fun _ e => (nomatch e), fun ⟨_, _, _, e⟩ => (nomatch e)⟩
theorem e_and1 {a : Expr} {a' : E} {pos : Pos} (ha : ESnd X cl a a') : ESnd X cl (.BoolOp .And [a] pos) a' :=
  ⟨pe_one ha.v, (pw_and1 ha.t).pt, fun i e => pe_one (ha.s i e), fun _ => pw_and1 ha.t⟩
theorem e_or1 {a : Expr} {a' : E} {pos : Pos} (ha : ESnd X cl a a') : ESnd X cl (.BoolOp .Or [a] pos) a' :=
  ⟨pe_one ha.v, (pw_or1 ha.t).pt, fun i e => pe_one (ha.s i e), fun _ => pw_or1 ha.t⟩
theorem e_and {a b : Expr} {r : List Expr} {a' b' : E} {pos : Pos} (ha : ESnd X cl a a') (hb : ESnd X cl (.BoolOp .And (b :: r) pos) b') : ESnd X cl (.BoolOp .And (a :: b :: r) pos) (.and a' b') := by
  have w := pwI (pw_and ha.t (hb.w ⟨_, _, _, rfl⟩)) (t' := denT (evalE cl (.and a' b'))) fun _ _ _ z => t_and z
  exact ⟨peI (pe_and ha.v hb.v) fun _ _ _ z => i_and z, w.pt, fun _ e => (nomatch e), fun _ => w⟩
theorem e_or {a b : Expr} {r : List Expr} {a' b' : E} {pos : Pos} (ha : ESnd X cl a a') (hb : ESnd X cl (.BoolOp .Or (b :: r) pos) b') : ESnd X cl (.BoolOp .Or (a :: b :: r) pos) (.or a' b') := by
  have w := pwI (pw_or ha.t (hb.w ⟨_, _, _, rfl⟩)) (t' := denT (evalE cl (.or a' b'))) fun _ _ _ z => t_or z
  exact ⟨peI (pe_or ha.v hb.v) fun _ _ _ z => i_or z, w.pt, fun _ e => (nomatch e), fun _ => w⟩
theorem e_ite {c a b : Expr} {c' a' b' : E} {pos : Pos} (hc : ESnd X cl c c') (ha : ESnd X cl a a') (hb : ESnd X cl b b') : ESnd X cl (.IfExp c a b pos) (.ite c' a' b') :=
  ⟨peI (pe_ifExp hc.t ha.v hb.v) fun _ _ _ z => i_ite z, ptI (pt_ifExp hc.t ha.t hb.t) fun _ _ _ z => t_ite z, fun _ e => (nomatch e), fun ⟨_, _, _, e⟩ => (nomatch e)⟩
theorem e_tup {es : List Expr} {es' : Es} {k : Nat} {pos : Pos} (h : PA X es (denEs (evalEs cl es'))) : ESnd X cl (.Tuple es k pos) (.tup es') :=
  .mk' (peI (pe_tup h) fun _ _ _ z => i_tup z) (fun _ e => (nomatch e)) (fun _ => rfl) (fun _ _ _ e => (nomatch e))
theorem e_lst {es : List Expr} {es' : Es} {pos : Pos} (h : PA X es (denEs (evalEs cl es'))) : ESnd X cl (.List es pos) (.lst es') :=
  .mk' (peI (pe_lst h) fun _ _ _ z => i_lst z) (fun _ e => (nomatch e)) (fun _ => rfl) (fun _ _ _ e => (nomatch e))
theorem e_sli {a : Expr} {a' : E} {lo hi : Option Expr} {lo' hi' : Oe} {p pos : Pos} (ha : ESnd X cl a a') (hl : PO X lo (denO (evalO cl lo'))) (hh : PO X hi (denO (evalO cl hi'))) : ESnd X cl (.Subscript a (.Slice lo hi none p) pos) (.sli a' lo' hi') :=
  .mk' (peI (pe_slice s_sli ha.b hl hh) fun _ _ _ z => i_sli z) (fun _ e => (nomatch e)) (fun _ => rfl) (fun _ _ _ e => (nomatch e))
theorem e_idx {a b : Expr} {a' b' : E} {pos : Pos} (ha : ESnd X cl a a') (hb : ESnd X cl b b') (hp : PlainIx b) : ESnd X cl (.Subscript a b pos) (.bin .idx a' b') :=
  .mk' (peI (pe_ix o_idx ha.b hb.b hp) fun _ _ _ z => i_op z) (fun _ e => (nomatch e)) (fun _ => rfl) (fun _ _ _ e => (nomatch e))
theorem e_call0 {x : Str} {id : Nat} {p pos : Pos} (C : Cxt X g cl sc) (hg : NG.gl sc x = true) (hx : g.fns.lookup x = some id) : ESnd X cl (.Call (.Name x p) [] [] pos) (.call id .nil) := by
  obtain ⟨k, f, fd, ps, F, hr, hm, hk, hb, hd⟩ := C.fn x id hx
  refine .mk' ?_ (fun _ e => (nomatch e)) (fun _ => rfl) (fun _ _ _ e => (nomatch e))
  exact peI (pe_call0 F hr (C.gl hg) hm hk hb .nil pass0 hd) fun σ H Q z => av_nil (i_callE (E := E0) z)
theorem e_call {x : Str} {id : Nat} {e : Expr} {r : List Expr} {es' : Es} {p pos : Pos} (C : Cxt X g cl sc) (hg : NG.gl sc x = true) (hx : g.fns.lookup x = some id) (ha : ∀ md, PA X (e :: r) (denA (evalA cl md es')))
    (h1 : starEach (e :: r) X.env = (false, eval e X.env) :: starEach r X.env) (h2 : (backTo pos (starEach r X.env)).any (·.1) = false) : ESnd X cl (.Call (.Name x p) (e :: r) [] pos) (.call id es') := by
  obtain ⟨k, f, fd, ps, F, hr, hm, hk, hb, hd⟩ := C.fn x id hx
  refine .mk' ?_ (fun _ e => (nomatch e)) (fun _ => rfl) (fun _ _ _ e => (nomatch e))
  exact peI (pe_call F hr (C.gl hg) hm hk hb .nil pass0 (ha _) hd h1 h2) fun _ _ _ z => i_callE z
theorem e_b1 {x : Str} {b : Bi} {a : Expr} {a' : E} {p pos : Pos} (C : Cxt X g cl sc) (hg : NG.gl sc x = true) (hx : biOf x = some b) (ha : ESnd X cl a a') (h1 : ∀ es env, starEach (a :: es) env = (false, eval a env) :: starEach es env) :
    ESnd X cl (.Call (.Name x p) [a] [] pos) (.bi b (.cons a' .nil)) :=
  .mk' (peI (pe_bi C hg hx (b_one C.calm b) (pa_cons ha.b pa_nil (h1 _ _)) (h1 _ _) rfl) fun _ _ _ z => i_b1 z) (fun _ e => (nomatch e)) (fun _ => rfl) (fun _ _ _ e => (nomatch e))
theorem e_sset {a : Expr} {a' : E} {p p2 q pos : Pos} (C : Cxt X g cl sc) (hg : NG.gl sc "sorted" = true) (hs : NG.gl sc "set" = true) (ha : ESnd X cl a a') (h1 : ∀ es env, starEach (a :: es) env = (false, eval a env) :: starEach es env) :
    ESnd X cl (.Call (.Name "sorted" p) [.Call (.Name "set" p2) [a] [] q] [] pos) (.sset a') :=
  .mk' (peI (pe_sset C.calm (C.gl hg) (C.blt _ (by decide +kernel)) (C.gl hs) (C.blt _ (by decide +kernel)) ha.b (h1 _ _)) fun _ _ _ z => i_sset z) (fun _ e => (nomatch e)) (fun _ => rfl) (fun _ _ _ e => (nomatch e))
theorem setArg_some {e a : Expr} (h : setArg e = some a) : ∃ p q, e = .Call (.Name "set" p) [a] [] q := by
  unfold setArg at h
  split at h
  · split at h
    · split at h
      · rename_i hx
        cases h
        subst hx
        exact ⟨_, _, rfl⟩
      · cases h
    · cases h
  · cases h
theorem e_b2 {x : Str} {b : Bi} {a c : Expr} {a' c' : E} {p pos : Pos} (C : Cxt X g cl sc) (hg : NG.gl sc x = true) (hx : biOf x = some b) (ha : ESnd X cl a a') (hc : ESnd X cl c c') (h1 : ∀ es env, starEach (a :: es) env = (false, eval a env) :: starEach es env)
    (h2 : ∀ es env, starEach (c :: es) env = (false, eval c env) :: starEach es env) : ESnd X cl (.Call (.Name x p) [a, c] [] pos) (.bi b (.cons a' (.cons c' .nil))) :=
  .mk' (peI (pe_bi C hg hx (b_two C.calm b) (pa_cons ha.b (pa_cons hc.b pa_nil (h2 _ _)) (h1 _ _)) (h1 _ _) (by rw [h2] <;> rfl)) fun _ _ _ z => i_b2 z) (fun _ e => (nomatch e)) (fun _ => rfl) (fun _ _ _ e => (nomatch e))
theorem den_none {e' : E} {t : TE} {σ : L2.St} {H : Hp} {Q : VK} (h : ∀ env, evalE cl e' env = none) (z : den (evalE cl e') σ H Q) : t σ H Q := by
  obtain ⟨env, H0, r, env', c, ev, k⟩ := z
  rw [h] at ev
  cases ev
theorem pe_none {e : Expr} {e' : E} (h : ∀ env, evalE cl e' env = none) : PE X e (den (evalE cl e')) := ⟨fun pins s σ H Q I z => by
  obtain ⟨env, H0, r, env', c, ev, k⟩ := z
  rw [h] at ev
  cases ev⟩
theorem e_isi {a : Expr} {a' : E} {y : Str} {t : Ty} {p p2 pos : Pos} (C : Cxt X g cl sc) (hg : NG.gl sc "isinstance" = true) (hy : NG.gl sc y = true) (ht : tyOf y = some t) (ha : ESnd X cl a a') (h1 : ∀ es env, starEach (a :: es) env = (false, eval a env) :: starEach es env) :
    ESnd X cl (.Call (.Name "isinstance" p) [a, .Name y p2] [] pos) (.isi a' t) := by
  obtain ⟨k1, k2, k3, k4, k5⟩ := tyOf_ok ht
  have hb : PE X (.Name y p2) (tC (.ty (tyS t))) := pe_bltn (C.gl hy) (C.blt y k2) k1 rfl k3 k4
  exact .mk' (peI (pe_callB (b_isi k5) (C.gl hg) (C.blt _ (by decide +kernel)) bootI (pa_cons ha.b (pa_cons hb pa_nil) (h1 _ _)) (by decide) (by decide) (h1 _ _) rfl) fun _ _ _ z => i_isi z) (fun _ e => (nomatch e)) (fun _ => rfl) (fun _ _ _ e => (nomatch e))
theorem e_pop {x : Str} {i : Nat} {px ap p : Pos} (C : Cxt X g cl sc) (h : slotN g sc x = some i) (hl : (ap.endLine == p.line) = true) : ESnd X cl (.Call (.Attribute (.Name x px) "pop" ap) [] [] p) (.pop i) :=
  .mk' (peI (pe_bm0 PySem.F.plainAttrs_list PySem.F.slot_list_pop PySem.F.type_list_pop mt_pop (e_name C h) rfl hl) fun _ _ _ z => i_pop z) (fun _ e => (nomatch e)) (fun _ => rfl) (fun _ _ _ e => (nomatch e))
theorem e_rg1 {y : Str} {b : Bi} {a : Expr} {a' : E} {p p2 pos pos2 : Pos} (C : Cxt X g cl sc) (hg : NG.gl sc y = true) (hr : NG.gl sc "range" = true) (hx : biOf y = some b) (hb : b = .tuple ∨ b = .list) (ha : ESnd X cl a a') (h1 : ∀ es env, starEach (a :: es) env = (false, eval a env) :: starEach es env) :
    ESnd X cl (.Call (.Name y p) [.Call (.Name "range" p2) [a] [] pos2] [] pos) (.birng b (.r1 a')) := by
  have R : PRg X (.Call (.Name "range" p2) [a] [] pos2) (tRg1 (den (evalE cl a'))) := prg_1 (C.gl hr) (C.blt _ (by decide +kernel)) ha.v (h1 _ _)
  refine .mk' ?_ (fun _ e => (nomatch e)) (fun _ => rfl) (fun _ _ _ e => (nomatch e))
  rcases hb with e | e
  · subst e
    have := biOf_tuple hx
    subst this
    exact peI (pe_tupRg C.calm (C.gl hg) (C.blt _ (by decide +kernel)) R) fun _ _ _ z => (rg1 z).1 rfl
  · subst e
    have := biOf_list hx
    subst this
    exact peI (pe_listRg C.calm (C.gl hg) (C.blt _ (by decide +kernel)) R) fun _ _ _ z => (rg1 z).2 rfl
theorem e_rg2 {y : Str} {b : Bi} {a c : Expr} {a' c' : E} {p p2 pos pos2 : Pos} (C : Cxt X g cl sc) (hg : NG.gl sc y = true) (hr : NG.gl sc "range" = true) (hx : biOf y = some b) (hb : b = .tuple ∨ b = .list) (ha : ESnd X cl a a') (hc : ESnd X cl c c')
    (h1 : ∀ es env, starEach (a :: es) env = (false, eval a env) :: starEach es env) (h2 : ∀ es env, starEach (c :: es) env = (false, eval c env) :: starEach es env) :
    ESnd X cl (.Call (.Name y p) [.Call (.Name "range" p2) [a, c] [] pos2] [] pos) (.birng b (.r2 a' c')) := by
  have R : PRg X (.Call (.Name "range" p2) [a, c] [] pos2) (tRg2 (den (evalE cl a')) (den (evalE cl c'))) := prg_2 (C.gl hr) (C.blt _ (by decide +kernel)) ha.v hc.v (h1 _ _) (h2 _ _) (by rw [h2] <;> rfl)
  refine .mk' ?_ (fun _ e => (nomatch e)) (fun _ => rfl) (fun _ _ _ e => (nomatch e))
  rcases hb with e | e
  · subst e
    have := biOf_tuple hx
    subst this
    exact peI (pe_tupRg C.calm (C.gl hg) (C.blt _ (by decide +kernel)) R) fun _ _ _ z => (rg2 z).1 rfl
  · subst e
    have := biOf_list hx
    subst this
    exact peI (pe_listRg C.calm (C.gl hg) (C.blt _ (by decide +kernel)) R) fun _ _ _ z => (rg2 z).2 rfl
/-- a comprehension's parts, in its block -/
theorem lc_parts {elt tg it : Expr} {ifs : List Expr} {scope : Scope} {n : Nat} {it' : It} {tg' : Tg} {c' : Oe} {elt' : E} (C : Cxt X g cl sc) (S : Snd g cl n) (hb : blkC g.N sc scope (blkOwn g.N scope.names) = true)
    (h1 : cIt g n sc it = some it') (h2 : cTg g (relS scope sc) (fnOf' scope) tg = some tg') (h3 : cIf g n (relS scope sc) ifs = some c') (h4 : cE g n (relS scope sc) elt = some elt') :
    PI X tg it (denIt (evalIt cl it')) ∧ BlkOk X.N X.env.scope scope (blkOwn g.N scope.names) ∧ (∀ (s : Shared) (H : Hp) (A : Addr) (ce : List (Str × Addr)) (fp : List Addr), PG (X.blk s H scope (compEnvC scope ce A X.env) fp) tg (denTg tg')) ∧
    (∀ (s : Shared) (H : Hp) (A : Addr) (ce : List (Str × Addr)) (fp : List Addr), PTs (X.blk s H scope (compEnvC scope ce A X.env) fp) ifs (denC (evalC cl c'))) ∧
    (∀ (s : Shared) (H : Hp) (A : Addr) (ce : List (Str × Addr)) (fp : List Addr), PE (X.blk s H scope (compEnvC scope ce A X.env) fp) elt (denD (evalE cl elt'))) := by
  refine ⟨S.it C h1, by rw [C.N, C.sc]; exact blkOk_by hb, fun s H A ce fp => ?_, fun s H A ce fp => S.c (C.blk s H scope A ce fp) h3, fun s H A ce fp => peI (S.e (C.blk s H scope A ce fp) h4).v fun _ _ _ z => denD_den z⟩
  have CB := C.blk s H scope A ce fp
  exact cTg_ok CB.calm CB.N CB.nd CB.sc (fun x h => h) h2
theorem e_comp {elt tg it : Expr} {ifs : List Expr} {scope : Scope} {n : Nat} {it' : It} {tg' : Tg} {c' : Oe} {elt' : E} {pos : Pos} (C : Cxt X g cl sc) (S : Snd g cl n) (hb : blkC g.N sc scope (blkOwn g.N scope.names) = true)
    (h1 : cIt g n sc it = some it') (h2 : cTg g (relS scope sc) (fnOf' scope) tg = some tg') (h3 : cIf g n (relS scope sc) ifs = some c') (h4 : cE g n (relS scope sc) elt = some elt') (h5 : tgIn ((blkOwn g.N scope.names).map (·.2)) tg' = true) :
    ESnd X cl (.ListComp elt [⟨tg, it, ifs, 0⟩] scope pos) (.comp elt' tg' it' c' ((blkOwn g.N scope.names).map (·.2))) := by
  obtain ⟨k1, k2, k3, k4, k5⟩ := lc_parts C S hb h1 h2 h3 h4
  exact .mk' (peI (pe_lc C.calm C.nd k1 k2 k3 k4 k5 (no_setI h1 _)) fun _ _ _ z => i_comp h5 z) (fun _ e => (nomatch e)) (fun _ => rfl) (fun _ _ _ e => (nomatch e))
end

/-! ### the induction -/
section
variable {g : SE} {cl : CL}
theorem snd_es {n : Nat} (S : Snd g cl n) {X : Cx} {sc : Scope} {es : List Expr} {es' : Es} (C : Cxt X g cl sc) (h : cEs g (n + 1) sc es = some es') : PA X es (denEs (evalEs cl es')) ∧ ∀ md, PA X es (denA (evalA cl md es')) := by
  cases es with
  | nil =>
    unfold cEs at h
    cases h
    exact ⟨paI pa_nil fun _ _ _ z => a_nil z, fun md => paI pa_nil fun _ _ _ z => av_nil z⟩
  | cons e es =>
    unfold cEs at h
    obtain ⟨e1, es1, h1, h2, rfl⟩ := consE_some h
    have k1 := S.e C h1
    obtain ⟨k2, k3⟩ := S.es C h2
    refine ⟨paI (pa_cons (peI k1.v fun _ _ _ z => denD_den z) k2 (no_star h1 _ _)) fun _ _ _ z => a_cons z, fun md => ?_⟩
    cases md with
    | nil =>
      refine ⟨fun pos pins s σ H Q I z => ?_⟩
      obtain ⟨env, H0, as, env', c, ev, k⟩ := z
      rw [evalA] at ev
      · cases ev
      all_goals (intros; simp_all)
    | cons m ms => exact paI (pa_cons (k1.av m) (k3 ms) (no_star h1 _ _)) fun _ _ _ z => av_cons z
theorem snd_o {n : Nat} (S : Snd g cl n) {X : Cx} {sc : Scope} {o : Option Expr} {o' : Oe} (C : Cxt X g cl sc) (h : cO g (n + 1) sc o = some o') : PO X o (denO (evalO cl o')) := by
  cases o with
  | none =>
    unfold cO at h
    cases h
    exact poI po_none fun _ _ _ z => o_none z
  | some e =>
    unfold cO at h
    obtain ⟨e1, h1, rfl⟩ := map_some h
    exact poI (po_some (S.e C h1).v) fun _ _ _ z => o_some z
theorem snd_c {n : Nat} (S : Snd g cl n) {X : Cx} {sc : Scope} {es : List Expr} {c' : Oe} (C : Cxt X g cl sc) (h : cIf g (n + 1) sc es = some c') : PTs X es (denC (evalC cl c')) := by
  unfold cIf at h
  cases es with
  | nil =>
    cases h
    exact ptsI pts_nil fun _ _ _ z => c_none z
  | cons e r =>
    cases r with
    | nil =>
      obtain ⟨e1, h1, rfl⟩ := map_some h
      exact ptsI (pts_one (S.e C h1).t) fun _ _ _ z => c_some z
    | cons _ _ => cases h
theorem snd_it {n : Nat} (S : Snd g cl n) {X : Cx} {sc : Scope} {tg e : Expr} {it' : It} (C : Cxt X g cl sc) (h : cIt g (n + 1) sc e = some it') : PI X tg e (denIt (evalIt cl it')) := by
  unfold cIt at h
  split at h
  · obtain ⟨e1, h1, rfl⟩ := map_some h
    exact pi_e (S.e C h1)
  · rename_i as q
    obtain ⟨_, _, rfl⟩ := rgOf_some q
    split at h
    · rename_i hg
      have hm := C.blt "range" (by decide +kernel)
      split at h
      · rename_i a
        obtain ⟨a', h1, rfl⟩ := map_some h
        exact piI (pi_range1 (C.gl hg) hm (pa_cons (S.e C h1).v pa_nil (no_star h1 _ _)) (no_star h1 _ _)) fun _ _ _ z => it_r1 z
      · rename_i a b
        split at h
        · rename_i a' b' h1 h2
          cases h
          exact piI (pi_range2 (C.gl hg) hm (pa_cons (S.e C h1).v (pa_cons (S.e C h2).v pa_nil (no_star h2 _ _)) (no_star h1 _ _)) (by rw [no_star h1, no_star h2]; rfl) (by rw [no_star h2]; rfl)) fun _ _ _ z => it_r2 z
        · cases h
      · rename_i a b c
        split at h
        · rename_i a' b' c' h1 h2 h3
          cases h
          exact piI (pi_range3 (C.gl hg) hm (pa_cons (S.e C h1).v (pa_cons (S.e C h2).v (pa_cons (S.e C h3).v pa_nil (no_star h3 _ _)) (no_star h2 _ _)) (no_star h1 _ _)) (no_star h1 _ _) (by rw [no_star h2, no_star h3]; rfl)) fun _ _ _ z => it_r3 z
        · cases h
      · cases h
    · cases h
theorem snd_call {n : Nat} (S : Snd g cl n) {X : Cx} {sc : Scope} {x : Str} {as : List Expr} {e' : E} {p pos : Pos} (C : Cxt X g cl sc) (hg : NG.gl sc x = true) (h : cCall g (n + 1) sc x as = some e') : ESnd X cl (.Call (.Name x p) as [] pos) e' := by
  unfold cCall at h
  split at h
  · rename_i id hx
    obtain ⟨es', h1, rfl⟩ := map_some h
    cases as with
    | nil =>
      have : es' = .nil := by
        cases n with
        | zero => unfold cEs at h1; cases h1
        | succ n => unfold cEs at h1; cases h1; rfl
      subst this
      exact e_call0 C hg hx
    | cons e r =>
      have h2 := no_stars h1
      have h3 : starEach (e :: r) X.env = (false, eval e X.env) :: starEach r X.env ∧ (backTo pos (starEach r X.env)).any (·.1) = false := by
        cases n with
        | zero => unfold cEs at h1; cases h1
        | succ n =>
          unfold cEs at h1
          obtain ⟨e1, es1, k1, k2, _⟩ := consE_some h1
          exact ⟨no_star k1 _ _, no_stars k2 pos X.env⟩
      exact e_call C hg hx (S.es C h1).2 h3.1 h3.2
  · split at h
    · rename_i hx
      subst hx
      split at h
      · rename_i a y p2
        split at h
        · rename_i hy
          split at h
          · rename_i a' t h1 h2
            cases h
            exact e_isi C hg hy h2 (S.e C h1) (no_star h1)
          · cases h
        · cases h
      · cases h
    · split at h
      · cases h
      · rename_i b hb
        split at h
        · rename_i a
          split at h
          · rename_i a2 ha2
            split at ha2
            · rename_i hc
              obtain ⟨_, _, rfl⟩ := setArg_some ha2
              obtain ⟨a', h1, rfl⟩ := map_some h
              obtain ⟨rfl, hs⟩ := hc
              have hx := biOf_sorted hb
              subst hx
              exact e_sset C hg hs (S.e C h1) (no_star h1)
            · cases ha2
          split at h
          · rename_i bs hr
            obtain ⟨_, _, rfl⟩ := rgOf_some hr
            split at h
            · rename_i hc
              split at h
              · rename_i a1
                obtain ⟨a', h1, rfl⟩ := map_some h
                exact e_rg1 C hg hc.2 hb hc.1 (S.e C h1) (no_star h1)
              · rename_i a1 a2
                split at h
                · rename_i a1' a2' h1 h2
                  cases h
                  exact e_rg2 C hg hc.2 hb hc.1 (S.e C h1) (S.e C h2) (no_star h1) (no_star h2)
                · cases h
              · cases h
            · cases h
          · obtain ⟨a', h1, rfl⟩ := map_some h
            exact e_b1 C hg hb (S.e C h1) (no_star h1)
        · rename_i a c
          split at h
          · rename_i a' c' h1 h2
            cases h
            exact e_b2 C hg hb (S.e C h1) (S.e C h2) (no_star h1) (no_star h2)
          · cases h
        · cases h
theorem snd_e {n : Nat} (S : Snd g cl n) (SC : ∀ {X : Cx} {sc : Scope} {x : Str} {as : List Expr} {e' : E} {p pos : Pos}, Cxt X g cl sc → NG.gl sc x = true → cCall g n sc x as = some e' → ESnd X cl (.Call (.Name x p) as [] pos) e')
    {X : Cx} {sc : Scope} {e : Expr} {e' : E} (C : Cxt X g cl sc) (h : cE g (n + 1) sc e = some e') : ESnd X cl e e' := by
  unfold cE at h
  cases e with
  | Name x p =>
    obtain ⟨i, h1, rfl⟩ := map_some h
    exact e_var' C h1
  | Constant c k p =>
    cases c <;> first | (cases h; done) | (cases h; first | exact e_cN | exact e_cB | exact e_cI | exact e_cS)
  | BinOp a o b p =>
    simp only at h
    split at h
    · rename_i h0 h1 h2
      cases h
      exact e_bin h0 (S.e C h1) (S.e C h2)
    · cases h
  | UnaryOp u a p =>
    cases u with
    | USub =>
      obtain ⟨a', h1, rfl⟩ := map_some h
      exact e_neg (S.e C h1)
    | Not =>
      obtain ⟨a', h1, rfl⟩ := map_some h
      exact e_not (S.e C h1)
    | Invert => cases h
    | UAdd => cases h
  | BoolOp u vs p =>
    cases vs with
    | nil => cases h
    | cons a r =>
      cases r with
      | nil =>
        cases u with
        | And => exact e_and1 (S.e C h)
        | Or => exact e_or1 (S.e C h)
      | cons b r =>
        simp only at h
        split at h
        · rename_i a' b' h1 h2
          cases u with
          | And =>
            cases h
            exact e_and (S.e C h1) (S.e C h2)
          | Or =>
            cases h
            exact e_or (S.e C h1) (S.e C h2)
        · cases h
  | Compare a os bs p =>
    simp only at h
    split at h
    · split at h
      · rename_i a' b' h1 h2
        cases h
        exact e_cmp C (S.e C h1) (S.e C h2) (no_set h2 _)
      · cases h
    · split at h
      · rename_i a' b' c' h1 h2 h3
        cases h
        exact e_chain C (S.e C h1) (S.e C h2) (S.e C h3) (no_set h3 _)
      · cases h
    · cases h
  | IfExp c a b p =>
    simp only at h
    split at h
    · rename_i c' a' b' h1 h2 h3
      cases h
      exact e_ite (S.e C h1) (S.e C h2) (S.e C h3)
    · cases h
  | Tuple es k p =>
    obtain ⟨es', h1, rfl⟩ := map_some h
    exact e_tup (S.es C h1).1
  | List es p =>
    obtain ⟨es', h1, rfl⟩ := map_some h
    exact e_lst (S.es C h1).1
  | Subscript a i p =>
    have gen : ∀ j : Expr, (match cE g n sc a, cE g n sc j with
        | some a, some i => some (E.bin .idx a i)
        | _, _ => none) = some e' → ESnd X cl (.Subscript a j p) e' := fun j h => by
      split at h
      · rename_i a' i' h1 h2
        cases h
        exact e_idx (S.e C h1) (S.e C h2) (no_slice h2)
      · cases h
    cases i with
    | Slice lo hi st q =>
      cases st with
      | some _ => cases h
      | none =>
        simp only at h
        split at h
        · rename_i a' lo' hi' h1 h2 h3
          cases h
          exact e_sli (S.e C h1) (S.o C h2) (S.o C h3)
        · cases h
    | _ => exact gen _ h
  | Call f as ks p =>
    cases ks with
    | cons _ _ => cases h
    | nil =>
      cases f with
      | Name x q =>
        simp only at h
        split at h
        · rename_i hg
          exact SC C hg h
        · cases h
      | Attribute o m ap =>
        cases o with
        | Name x q =>
          cases as with
          | nil =>
            simp only at h
            split at h
            · rename_i hm
              obtain ⟨i, h1, rfl⟩ := map_some h
              obtain ⟨rfl, hl⟩ := hm
              exact e_pop C h1 hl
            · cases h
          | cons _ _ => cases h
        | _ => cases h
      | _ => cases h
  | ListComp elt gens scope p =>
    simp only at h
    split at h
    · rename_i tg it ifs
      split at h
      · rename_i hb
        split at h
        · rename_i it' tg' c' elt' h1 h2 h3 h4
          split at h
          · rename_i h5
            cases h
            exact e_comp C S hb h1 h2 h3 h4 h5
          · cases h
        · cases h
      · cases h
    · cases h
  | _ => cases h
theorem snd_zero : Snd g cl 0 := by
  refine ⟨fun _ h => ?_, fun _ h => ?_, fun _ h => ?_, fun _ h => ?_, fun _ h => ?_⟩
  · unfold cE at h; cases h
  · unfold cEs at h; cases h
  · unfold cO at h; cases h
  · unfold cIf at h; cases h
  · unfold cIt at h; cases h
theorem snd_all : ∀ n : Nat, Snd g cl n ∧ ∀ {X : Cx} {sc : Scope} {x : Str} {as : List Expr} {e' : E} {p pos : Pos}, Cxt X g cl sc → NG.gl sc x = true → cCall g n sc x as = some e' → ESnd X cl (.Call (.Name x p) as [] pos) e'
  | 0 => ⟨snd_zero, fun _ _ h => by unfold cCall at h; cases h⟩
  | n + 1 => by
    obtain ⟨S, SC⟩ := snd_all n
    exact ⟨⟨fun C h => snd_e S SC C h, fun C h => snd_es S C h, fun C h => snd_o S C h, fun C h => snd_c S C h, fun C h => snd_it S C h⟩, fun C hg h => snd_call S C hg h⟩
theorem snd (n : Nat) : Snd g cl n := (snd_all n).1
end
end NG

/-! NG12: the readings of statements. -/
namespace NG
open PySem L2 PyProof.Rows HT

/-- what a return hands out: a list of the def's own, perhaps -/
def ResW (env : NEnv) (σ : L2.St) (H : Hp) (env' : NEnv) (σ' : L2.St) (H0' H' : Hp) (v : V) : RV → Prop
  | .dat d => Rep H0' v d
  | .new ds => ∃ a ws, v = .ref a ∧ (IsCell env σ a ∨ H a = none) ∧ H0' a = none ∧ H' a = some (.lst ws) ∧ ds.length ≤ 16777216 ∧ Reps H0' ws ds ∧ ¬ IsCell env' σ' a
def OutOk (σ : L2.St) (env : NEnv) (H0 H : Hp) (D : Ends) : Out → Prop
  | .nx e => ∀ σ' H' H0', Post σ env H0 H σ' e H0' H' → D.nx σ' H'
  | .bk e => ∀ σ' H' H0', Post σ env H0 H σ' e H0' H' → D.bk σ' H'
  | .ct e => ∀ σ' H' H0', Post σ env H0 H σ' e H0' H' → D.ct σ' H'
  | .rt r e => ∀ v σ' H' H0', Post σ env H0 H σ' e H0' H' → ResW env σ H e σ' H0' H' v r → D.rt v H'
def denS (ev : NEnv → Option Out) : TS := fun D σ H => ∃ env H0 out, Core σ env H0 H ∧ ev env = some out ∧ OutOk σ env H0 H D out
section
variable {σ σ1 σ2 : L2.St} {env e1 e2 : NEnv} {H0 H H01 H1 H02 H2 : Hp} {D : Ends} {cl : CL} {wf : Nat}
theorem ResW.back {v : V} {r : RV} (p : Post σ env H0 H σ1 e1 H01 H1) (h : ResW e1 σ1 H1 e2 σ2 H02 H2 v r) : ResW env σ H e2 σ2 H02 H2 v r := by
  cases r with
  | dat d => exact h
  | new ds =>
    obtain ⟨a, ws, e, h1, h2⟩ := h
    refine ⟨a, ws, e, ?_, h2⟩
    rcases h1 with q | q
    · exact p.ic a q
    · exact .inr (p.tr a q)
theorem ResW.of {v : V} {r : RV} (h : ResV e2 σ2 H H02 H2 v r) : ResW env σ H e2 σ2 H02 H2 v r := by
  cases r with
  | dat d => exact h
  | new ds =>
    obtain ⟨a, ws, e, h1, h2, h3, l, q, n⟩ := h
    exact ⟨a, ws, e, .inr h1, h2, h3, l, q, n⟩
theorem OutOk.back {out : Out} (p : Post σ env H0 H σ1 e1 H01 H1) (h : OutOk σ env H0 H D out) : OutOk σ1 e1 H01 H1 D out := by
  cases out with
  | nx e => exact fun σ' H' H0' q => h σ' H' H0' (p.trans q)
  | bk e => exact fun σ' H' H0' q => h σ' H' H0' (p.trans q)
  | ct e => exact fun σ' H' H0' q => h σ' H' H0' (p.trans q)
  | rt r e => exact fun v σ' H' H0' q w => h v σ' H' H0' (p.trans q) (w.back p)
theorem OutOk.imp {D' : Ends} {out : Out} (h : OutOk σ env H0 H D out) (h1 : ∀ σ H, D.nx σ H → D'.nx σ H) (h2 : ∀ v H, D.rt v H → D'.rt v H) (h3 : ∀ σ H, D.bk σ H → D'.bk σ H) (h4 : ∀ σ H, D.ct σ H → D'.ct σ H) : OutOk σ env H0 H D' out := by
  cases out with
  | nx e => exact fun σ' H' H0' q => h1 _ _ (h σ' H' H0' q)
  | bk e => exact fun σ' H' H0' q => h3 _ _ (h σ' H' H0' q)
  | ct e => exact fun σ' H' H0' q => h4 _ _ (h σ' H' H0' q)
  | rt r e => exact fun v σ' H' H0' q w => h2 _ _ (h v σ' H' H0' q w)
theorem nxO_some {o : Option NEnv} {out : Out} (h : nxO o = some out) : ∃ e, o = some e ∧ out = .nx e := by
  unfold nxO at h
  split at h
  · cases h; exact ⟨_, rfl, rfl⟩
  · cases h

/-! blocks -/
theorem ss_nil (h : denS (evalSs cl wf .nil) D σ H) : tNext D σ H := by
  obtain ⟨env, H0, out, c, ev, k⟩ := h
  rw [evalSs] at ev
  cases ev
  exact k σ H H0 (.refl c)
theorem ss_cons {s : S} {ss : Ss} (h : denS (evalSs cl wf (.cons s ss)) D σ H) : tSeq (denS (evalS cl wf s)) (denS (evalSs cl wf ss)) D σ H := by
  obtain ⟨env, H0, out, c, ev, k⟩ := h
  rw [evalSs] at ev
  cases h1 : evalS cl wf s env with
  | none => rw [h1] at ev; cases ev
  | some o1 =>
    rw [h1] at ev
    refine ⟨env, H0, o1, c, h1, ?_⟩
    cases o1 with
    | nx e => exact fun σ' H' H0' p => ⟨e, H0', out, p.core, ev, k.back p⟩
    | bk e => cases ev; exact k
    | ct e => cases ev; exact k
    | rt r e => cases ev; exact k
theorem s_if {c : E} {a b : Ss} (h : denS (evalS cl wf (.iff c a b)) D σ H) : tIfS (denT (evalE cl c)) (denS (evalSs cl wf a)) (denS (evalSs cl wf b)) D σ H := by
  obtain ⟨env, H0, out, C, ev, k⟩ := h
  rw [evalS] at ev
  split at ev
  · rename_i e1 h1
    refine ⟨env, H0, true, e1, C, h1, fun H' H0' p => iteT ⟨e1, H0', out, p.core, ev, k.back p⟩⟩
  · rename_i e1 h1
    refine ⟨env, H0, false, e1, C, h1, fun H' H0' p => iteF ⟨e1, H0', out, p.core, ev, k.back p⟩⟩
  · cases ev
theorem s_brk (h : denS (evalS cl wf .brk) D σ H) : tBreak D σ H := by
  obtain ⟨env, H0, out, c, ev, k⟩ := h
  rw [evalS] at ev
  cases ev
  exact k σ H H0 (.refl c)
theorem s_cont (h : denS (evalS cl wf .cont) D σ H) : tCont D σ H := by
  obtain ⟨env, H0, out, c, ev, k⟩ := h
  rw [evalS] at ev
  cases ev
  exact k σ H H0 (.refl c)
theorem s_pass (h : denS (evalS cl wf .pass) D σ H) : tNext D σ H := by
  obtain ⟨env, H0, out, c, ev, k⟩ := h
  rw [evalS] at ev
  cases ev
  exact k σ H H0 (.refl c)
theorem s_retN (h : denS (evalS cl wf .retN) D σ H) : tRetN D σ H := by
  obtain ⟨env, H0, out, c, ev, k⟩ := h
  rw [evalS] at ev
  cases ev
  exact k .non σ H H0 (.refl c) .non
theorem s_expr {e : E} (h : denS (evalS cl wf (.expr e)) D σ H) : tDrop (den (evalE cl e)) D σ H := by
  obtain ⟨env, H0, out, c, ev, k⟩ := h
  rw [evalS] at ev
  split at ev
  · rename_i r e1 h1
    cases ev
    exact ⟨env, H0, _, e1, c, h1, fun v H' H0' p q => k σ H' H0' p⟩
  · cases ev
/-- a slot leaves the frame with its list -/
theorem Core.leave {i : Nat} {ds : List PyData} (c : Core σ env H0 H) (h : getS env i = .mu ds) : ∃ a ws, σ[i]? = some (some (.ref a)) ∧ H a = some (.lst ws) ∧ H0 a = none ∧ ds.length ≤ 16777216 ∧ Reps H0 ws ds ∧ IsCell env σ a ∧ ¬ IsCell (env.set i .un) σ a ∧ Post σ env H0 H σ (env.set i .un) H0 H := by
  have hc : cellD (getS env i) = some ds := by rw [h]; rfl
  obtain ⟨a, ws, e, h1, h2, l, r⟩ := c.cell i ds hc
  have hi := cell_lt hc
  have ne : ∀ j, cellD (getS (env.set i .un) j) ≠ none → i ≠ j := fun j q z => by
    subst z
    rw [getS_set_same hi] at q
    exact q rfl
  refine ⟨a, ws, e, h1, h2, l, r, ⟨i, ds, hc, e⟩, fun ⟨j, ds', q1, q2⟩ => ?_, ⟨⟨c.sub, by rw [List.length_set]; exact c.len, fun j d q => ?_, fun j ds' q => ?_, fun j k b q1 q2 q3 q4 => ?_⟩, .refl _, fun _ _ q _ => q, fun _ q => q, fun _ q => .inl q, fun b q => ?_, fun j d q => ?_, fun j d q => ?_⟩⟩
  · have hj := ne j (by rw [q1]; exact fun z => nomatch z)
    rw [getS_set_ne hj] at q1
    exact hj (c.inj i j a (by rw [hc]; exact fun z => nomatch z) (by rw [q1]; exact fun z => nomatch z) e q2)
  · have hj : i ≠ j := fun z => by
      subst z
      rw [getS_set_same hi] at q
      cases q
    rw [getS_set_ne hj] at q
    exact c.im j d q
  · have hj := ne j (by rw [q]; exact fun z => nomatch z)
    rw [getS_set_ne hj] at q
    exact c.cell j ds' q
  · have hj := ne j q1
    have hk := ne k q2
    rw [getS_set_ne hj] at q1
    rw [getS_set_ne hk] at q2
    exact c.inj j k b q1 q2 q3 q4
  · obtain ⟨j, d, q1, q2⟩ := q
    have hj := ne j (by rw [q1]; exact fun z => nomatch z)
    rw [getS_set_ne hj] at q1
    exact .inl ⟨j, d, q1, q2⟩
  · have hj : i ≠ j := fun z => by
      subst z
      rw [h] at q
      cases q
    exact ⟨by rw [getS_set_ne hj]; exact q, rfl⟩
  · have hj : i ≠ j := fun z => by
      subst z
      rw [h] at q
      cases q
    exact ⟨⟨_, by rw [getS_set_ne hj]; exact q⟩, rfl⟩
theorem s_retV {i : Nat} (h : denS (evalS cl wf (.ret (.var i))) D σ H) : tRet (tVar i) D σ H := by
  obtain ⟨env, H0, out, c, ev, k⟩ := h
  rw [evalS] at ev
  have ev : (match getS env i with
    | .im d => some (Out.rt (.dat d) env)
    | .mu ds => some (.rt (.new ds) (env.set i .un))
    | _ => none) = some out := ev
  split at ev
  · rename_i d hd
    cases ev
    obtain ⟨x, h1, h2⟩ := c.im i d hd
    exact ⟨x, h1, k x σ H H0 (.refl c) h2⟩
  · rename_i ds hd
    cases ev
    obtain ⟨a, ws, e, h1, h2, l, r, ic, n, p⟩ := c.leave hd
    exact ⟨_, e, k _ σ H H0 p ⟨a, ws, rfl, .inl ic, h2, h1, l, r, n⟩⟩
  · cases ev
theorem s_ret {e : E} (he : ∀ i, e ≠ .var i) (h : denS (evalS cl wf (.ret e)) D σ H) : tRet (den (evalE cl e)) D σ H := by
  obtain ⟨env, H0, out, c, ev, k⟩ := h
  rw [evalS] at ev
  unfold retE at ev
  split at ev
  · exact absurd rfl (he _)
  · split at ev
    · rename_i r e1 h1
      cases ev
      exact ⟨env, H0, r, _, c, h1, fun v H' H0' p q => k v σ H' H0' p (.of q)⟩
    · cases ev

/-! stores -/
theorem asgR_ok {i : Nat} {r : RV} {v : V} (p : Post σ env H0 H σ e1 H01 H1) (q : ResV e1 σ H H01 H1 v r) (h : asgR (.name i) r e1 = some e2) : Post σ env H0 H (σ.set i (some v)) e2 H01 H1 := by
  cases r with
  | dat d => exact p.trans (p.core.asg q h)
  | new ds =>
    have h : (if i < e1.length && okSt (getS e1 i) then some (e1.set i (.mu ds)) else none) = some e2 := h
    split at h
    · rename_i hi
      rw [Bool.and_eq_true] at hi
      cases h
      obtain ⟨a, ws, rfl, h1, h2, h3, l, r, n⟩ := q
      exact Core.asgNew p.core h3 h2 l r n (of_decide_eq_true hi.1) hi.2 h1 p
    · cases h
theorem s_asg {i : Nat} {e : E} (h : denS (evalS cl wf (.asg (.name i) e)) D σ H) : tAsg (den (evalE cl e)) (gName i) D σ H := by
  obtain ⟨env, H0, out, c, ev, k⟩ := h
  rw [evalS] at ev
  split at ev
  · rename_i r e1 h1
    obtain ⟨e2, h2, rfl⟩ := nxO_some ev
    exact ⟨env, H0, r, e1, c, h1, fun v H' H0' p q => k _ H' H0' (asgR_ok p q h2)⟩
  · cases ev
theorem asgT_tup {is : List Nat} {r : RV} (h : asgT (.tup is) r.d e1 = some e2) : ∃ ds, r = .dat (.tuple ds) ∧ asgs is ds e1 = some e2 := by
  cases r with
  | new ds => cases h
  | dat d =>
    cases d with
    | tuple ds => exact ⟨ds, rfl, h⟩
    | none => cases h
    | bool _ => cases h
    | int _ => cases h
    | str _ => cases h
    | list _ => cases h
    | dict _ => cases h
theorem s_asgT {is : List Nat} {e : E} (h : denS (evalS cl wf (.asg (.tup is) e)) D σ H) : tAsg (den (evalE cl e)) (denTg (.tup is)) D σ H := by
  obtain ⟨env, H0, out, c, ev, k⟩ := h
  rw [evalS] at ev
  split at ev
  · rename_i r e1 h1
    obtain ⟨e2, h2, rfl⟩ := nxO_some ev
    have h2 : asgT (.tup is) r.d e1 = some e2 := h2
    obtain ⟨ds, rfl, h3⟩ := asgT_tup h2
    exact ⟨env, H0, _, e1, c, h1, fun v H' H0' p q => ⟨e1, H0', _, e2, p.core, q, h2, fun σ' p2 _ => k σ' H' H0' (p.trans p2)⟩⟩
  · cases ev
/-- a, b = x, y -/
theorem s_par {i j : Nat} {a b : E} (h : denS (evalS cl wf (.asg (.tup [i, j]) (.tup (.cons a (.cons b .nil))))) D σ H) : tPar i j (denEs (evalEs cl (.cons a (.cons b .nil)))) D σ H := by
  obtain ⟨env, H0, out, c, ev, k⟩ := h
  rw [evalS] at ev
  split at ev
  · rename_i r e1 h1
    obtain ⟨e2, h2, rfl⟩ := nxO_some ev
    have h2 : asgT (.tup [i, j]) r.d e1 = some e2 := h2
    obtain ⟨ds, rfl, h3⟩ := asgT_tup h2
    rw [evalE] at h1
    split at h1
    · rename_i ds' e1' h4
      split at h1
      · cases h1
        refine ⟨env, H0, ds, e1, c, h4, fun vs H' H0' p q => ?_⟩
        have hl := asgs_len h3
        cases q with
        | nil => cases hl
        | cons r1 q =>
          cases q with
          | nil => cases hl
          | cons r2 q =>
            cases q with
            | cons _ _ => simp only [List.length_cons, List.length_nil] at hl; omega
            | nil =>
              refine ⟨_, _, rfl, ?_⟩
              have h3 : (match asgN i _ e1 with
                | some env' => asgs [j] _ env'
                | none => none) = some e2 := h3
              split at h3
              · rename_i e3 k1
                have h3 : (match asgN j _ e3 with
                  | some env' => asgs [] _ env'
                  | none => none) = some e2 := h3
                split at h3
                · rename_i e4 k2
                  cases h3
                  have p1 := p.core.asg r1 k1
                  exact k _ H' H0' ((p.trans p1).trans (p1.core.asg r2 k2))
                · cases h3
              · cases h3
      · cases h1
    · cases h1
  · cases ev
theorem isSome_ex {α : Type} {o : Option α} (h : o.isSome = true) : ∃ x, o = some x := Option.isSome_iff_exists.mp h
/-- x[i] = e -/
theorem s_seti {i : Nat} {ix e : E} (h : denS (evalS cl wf (.seti i ix e)) D σ H) : tAsg (denD (evalE cl e)) (gSub (tVar i) (den (evalE cl ix)) rSetL) D σ H := by
  obtain ⟨env, H0, out, c, ev, k⟩ := h
  rw [evalS] at ev
  split at ev
  · rename_i r e1 h1
    split at ev
    · rename_i hcell
      obtain ⟨ds0, hcell⟩ := isSome_ex hcell
      split at ev
      · rename_i j e2 h2
        obtain ⟨e3, h3, rfl⟩ := nxO_some ev
        refine ⟨env, H0, r, e1, c, h1, fun v H1 H01 p1 q1 => ?_⟩
        obtain ⟨a, _, hs, _⟩ := p1.core.cell i ds0 hcell
        refine ⟨_, hs, den_int p1.core h2 fun H2 H02 p2 => ?_⟩
        have go : ∀ (ds : List PyData) (n : Nat) (s' : Sl), cellD (getS e2 i) = some ds → ixN ds.length j = some n → sameK (getS e2 i) s' → cellD s' = some (ds.set n r.d) → e3 = e2.set i s' → rSetL (.ref a) (.int j) v H2 fun H3 => D.nx σ H3 := by
          intro ds n s' hc hn hk hd he
          subst he
          obtain ⟨a', ws, q2, q3, q4, l, q5⟩ := p2.core.cell i ds hc
          rw [hs] at q2
          cases q2
          refine ⟨a, ws, j, n, rfl, rfl, q3, by rw [q5.len]; exact hn, ?_⟩
          exact k σ _ _ ((p1.trans p2).trans (p2.core.mut hk hd hs (by rw [List.length_set]; exact l) (q5.set (q1.mono p2.e0) n)))
        unfold setAt at h3
        split at h3
        · rename_i ds hds
          split at h3
          · rename_i n hn
            cases h3
            exact go ds n _ (by rw [hds]; rfl) hn (by rw [hds]; trivial) rfl rfl
          · cases h3
        · rename_i ds hds
          split at h3
          · rename_i n hn
            cases h3
            exact go ds n _ (by rw [hds]; rfl) hn (by rw [hds]; trivial) rfl rfl
          · cases h3
        · cases h3
      · cases ev
    · cases ev
  · cases ev
/-- x.append(e) -/
theorem s_app {K : PySem.W.Frag} {i : Nat} {e : E} (h : denS (evalS cl wf (.app i e)) D σ H) : tDrop (tBM K "list" rAppend (tVar i) (tCons (denD (evalE cl e)) tNil)) D σ H := by
  obtain ⟨env, H0, out, c, ev, k⟩ := h
  rw [evalS] at ev
  split at ev
  · rename_i hcell
    obtain ⟨ds0, hcell⟩ := isSome_ex hcell
    split at ev
    · rename_i r e1 h1
      obtain ⟨e3, h3, rfl⟩ := nxO_some ev
      obtain ⟨a, ws0, hs, hH, _⟩ := c.cell i ds0 hcell
      refine ⟨_, hs, .inl ⟨rfl, ws0, .inl (.inl hH)⟩, env, H0, r, e1, c, h1, fun v H1 H01 p1 q1 => ?_⟩
      have go : ∀ (ds : List PyData) (s' : Sl), cellD (getS e1 i) = some ds → ds.length < 16777216 → sameK (getS e1 i) s' → cellD s' = some (ds ++ [r.d]) → e3 = e1.set i s' → rAppend (.ref a) [v] H1 fun _ H2 => D.nx σ H2 := by
        intro ds s' hc hn hk hd he
        subst he
        obtain ⟨a', ws, q2, q3, q4, l, q5⟩ := p1.core.cell i ds hc
        rw [hs] at q2
        cases q2
        refine ⟨a, ws, v, rfl, rfl, q3, by rw [q5.len, line_eq]; exact hn, ?_⟩
        exact k σ _ _ (p1.trans (p1.core.mut hk hd hs (by rw [List.length_append, List.length_singleton]; omega) (q5.app (.one q1))))
      unfold appAt at h3
      split at h3
      · rename_i ds hds
        split at h3
        · rename_i hn
          cases h3
          exact go ds _ (by rw [hds]; rfl) hn (by rw [hds]; trivial) rfl rfl
        · cases h3
      · rename_i ds hds
        split at h3
        · rename_i hn
          cases h3
          exact go ds _ (by rw [hds]; rfl) hn (by rw [hds]; trivial) rfl rfl
        · cases h3
      · cases h3
    · cases ev
  · cases ev
/-- x.reverse() -/
theorem s_rev {K : PySem.W.Frag} {i : Nat} (h : denS (evalS cl wf (.rev i)) D σ H) : tDrop (tBM0 K "list" rReverse (tVar i)) D σ H := by
  obtain ⟨env, H0, out, c, ev, k⟩ := h
  rw [evalS] at ev
  obtain ⟨e3, h3, rfl⟩ := nxO_some ev
  have go : ∀ (ds : List PyData) (s' : Sl), cellD (getS env i) = some ds → sameK (getS env i) s' → cellD s' = some ds.reverse → e3 = env.set i s' → tDrop (tBM0 K "list" rReverse (tVar i)) D σ H := by
    intro ds s' hc hk hd he
    subst he
    obtain ⟨a, ws, hs, q3, q4, l, q5⟩ := c.cell i ds hc
    refine ⟨_, hs, .inl ⟨rfl, ws, .inl (.inl q3)⟩, a, ws, rfl, rfl, q3, ?_⟩
    exact k σ _ _ (c.mut hk hd hs (by rw [List.length_reverse]; exact l) q5.rev)
  unfold revAt at h3
  split at h3
  · rename_i ds hds
    cases h3
    exact go ds _ (by rw [hds]; rfl) (by rw [hds]; trivial) rfl rfl
  · rename_i ds hds
    cases h3
    exact go ds _ (by rw [hds]; rfl) (by rw [hds]; trivial) rfl rfl
  · cases h3

/-! x op= e -/
theorem noI_tuple_add : typeLookup (.type "tuple") (dunderI "add") = pure none := by rw [typeLookup_type, builtinLookup_eq_fast]; kernel_rfl
theorem iop_catA {X : Cx} : OpR X (inplaceOp .Add) (rCatA X.K) := by
  intro pins s σ H x y v u Q I rx ry h
  obtain ⟨a, b, xs, ys, rfl, rfl, ha, hb, hz, q0, q1, q2⟩ := h
  cases rx
  cases ry
  obtain ⟨its, r1, p1, z1⟩ := I.tuple ha
  obtain ⟨its2, r2, p2, z2⟩ := I.tuple hb
  obtain ⟨⟨cls, dd, data, sl⟩, ho, hc, n, hd⟩ := id p1
  obtain ⟨⟨cls2, dd2, data2, sl2⟩, ho2, hc2, n2, hd2⟩ := id p2
  simp only at hc hd hc2 hd2
  subst hc hd hc2 hd2
  have l1 := r1.length
  have l2 := r2.length
  have e : its.toArray ++ its2.toArray = (its ++ its2).toArray := by simp
  refine wpAny_inplaceOp_concat ⟨_, ho, rfl⟩ ⟨_, ho2, rfl⟩ noI_tuple_add noFill_tuple_add seq_tuple_add ?_
  by_cases hx : xs = []
  · have hi : its = [] := nil_of_len l1 hx
    subst hi
    exact call_meets PySem.F.slot_tuple_add ⟨_, ho, rfl⟩ PySem.F.entry_tuple_add (PySem.F.args_tuple_add_2 _ _) (tuple_addW0 a b ([] : List Value).toArray its2.toArray n n2 dd dd2 sl sl2 (by simp)) ⟨ho, ho2, .ref b, H, I, rfl, q0 hx⟩
  · have hi : its ≠ [] := fun z => hx (nil_of_len l1.symm z)
    by_cases hy : ys = []
    · have hj : its2 = [] := nil_of_len l2 hy
      exact call_meets PySem.F.slot_tuple_add ⟨_, ho, rfl⟩ PySem.F.entry_tuple_add (PySem.F.args_tuple_add_2 _ _) (tuple_addW1 a b its.toArray its2.toArray n n2 dd dd2 sl sl2 (by simpa using hi) (by simp [hj])) ⟨ho, ho2, .ref a, H, I, rfl, q1 hx hy⟩
    · have hj : its2 ≠ [] := fun z => hy (nil_of_len l2.symm z)
      refine call_meets PySem.F.slot_tuple_add ⟨_, ho, rfl⟩ PySem.F.entry_tuple_add (PySem.F.args_tuple_add_2 _ _) (tuple_addW2 a b its.toArray its2.toArray n n2 dd dd2 sl sl2 (by simpa using hi) (by simpa using hj) (by rw [List.size_toArray, List.size_toArray]; omega)) ⟨ho, ho2, ?_⟩
      rw [e]
      have hf : H s.heap.objs.size = none := I.hok.fresh (Nat.le_refl _)
      refine ⟨.ref s.heap.objs.size, upd H s.heap.objs.size (.tup (xs ++ ys)), I.laid (t' := s.toks) (fun b u e => Heap.get?_push_of_some _ e) (Nat.le_refl _) ?_, rfl, q2 hx hy _ hf⟩
      exact ⟨by rw [List.length_append]; exact hz, its ++ its2, r1.append r2, ⟨_, Heap.get?_push_size _ rfl, rfl, _, rfl⟩⟩
def rExtL : R2 := fun x y H Q => ∃ l b xs zs, x = .ref l ∧ y = .ref b ∧ H l = some (.lst xs) ∧ Rd H b (.lst zs) ∧ xs.length + zs.length ≤ sizeLine ∧ Q (.ref l) (upd H l (.lst (xs ++ zs)))
theorem iop_extL {X : Cx} : OpR X (inplaceOp .Add) rExtL := by
  intro pins s σ H x y v u Q I rx ry h
  obtain ⟨l, b, xs, zs, rfl, rfl, hH, hB, hz, q⟩ := h
  cases rx
  cases ry
  obtain ⟨z, its, n, r, hl, e⟩ := I.lstM hH
  obtain ⟨z2, its2, n2, r2, hl2, e2⟩ := Inv.rdL I hB
  have hsz : its.toArray.size + its2.toArray.size ≤ sizeLine := by rw [List.size_toArray, List.size_toArray]; omega
  have hlong : ¬ (!its.toArray.isEmpty && Builtin.List.listTooLong (its.toArray.size + its2.toArray.size)) = true := by
    rw [notLongL hsz, Bool.and_false]
    exact Bool.false_ne_true
  refine iadd_road ⟨_, e, rfl⟩ ⟨_, e2, rfl⟩ (call_meets PySem.F.slot_list_iadd ⟨_, e, rfl⟩ PySem.F.entry_list_iadd (PySem.F.args_list_iadd_2 _ _)
    (AutoSeq1.list___iadd___list_list_0 l its.toArray n b its2.toArray n2 hlong (by rw [List.size_toArray]; omega) (by omega)) ⟨e, e2, ?_⟩)
  refine ⟨.ref l, _, I.lset (its' := its ++ its2) (t' := s.toks) hH e (by simp) (r.append r2) ?_, rfl, q⟩
  rw [List.length_append]
  omega
/-- x op= y on data; lists -/
def rAug (o : Op) : R2 := fun x y H Q => (∃ H0 dx dy d, Ex H0 H ∧ Rep H0 x dx ∧ Rep H0 y dy ∧ augD o dx dy = some d ∧ ResK H0 H (.dat d) Q) ∨ (o = .add ∧ rExtL x y H Q)
theorem o_aug {X : Cx} {op : Operator} {o : Op} (h : opOf op = some o) : OpR X (inplaceOp op) (rAug o) := by
  rintro pins s σ H x y v u Q I rx ry (⟨H0, dx, dy, d, e, r1, r2, hd, k⟩ | ⟨ho, q⟩)
  · have ox := r1.op e
    have oy := r2.op e
    unfold augD at hd
    cases o <;> simp only at hd <;> first | (cases hd; done) | skip
    · cases op <;> cases h
      split at hd
      · cases hd
        exact iop_add pins s σ H x y v u Q I rx ry ⟨_, _, ox.int, oy.int, k.sc e (.int _)⟩
      · split at hd
        · rename_i xs ys hl
          cases hd
          obtain ⟨a, ws, rfl, sa, la, ra⟩ := ox.tup
          obtain ⟨b, us, rfl, sb, lb, rb⟩ := oy.tup
          have e1 := ra.len
          have e2 := rb.len
          refine iop_catA pins s σ H _ _ v u Q I rx ry ⟨a, b, ws, us, rfl, rfl, .inl (e.rd sa), .inl (e.rd sb), by rw [line_eq]; omega, fun h => ?_, fun _ h => ?_, fun _ _ => ?_⟩
          · have h2 := nil_of_len e1 h
            subst h2
            exact k.sc e oy
          · have h2 := nil_of_len e2 h
            subst h2
            rw [List.append_nil] at k
            exact k.sc e ox
          · exact k.newT e (by rw [List.length_append]; exact hl) (ra.app rb)
        · cases hd
      · split at hd
        · rename_i hl
          cases hd
          obtain ⟨e1, l1, k1⟩ := ox.str
          obtain ⟨e2, l2, k2⟩ := oy.str
          exact iop_add_str pins s σ H x y v u Q I rx ry ⟨_, _, e1, e2, by rw [line_eq]; exact hl, k.sc e (.str _ (by rw [str_len_app]; exact hl) (strOk_app k1 k2))⟩
        · cases hd
      · cases hd
    · cases op <;> cases h
      split at hd
      · cases hd
        exact iop_sub pins s σ H x y v u Q I rx ry ⟨_, _, ox.int, oy.int, k.sc e (.int _)⟩
      · cases hd
    · cases op <;> cases h
      split at hd
      · split at hd
        · rename_i hl
          cases hd
          exact iop_mul pins s σ H x y v u Q I rx ry ⟨_, _, ox.int, oy.int, mulOk_c hl, k.sc e (.int _)⟩
        · cases hd
      · cases hd
  · subst ho
    cases op <;> cases h
    exact iop_extL pins s σ H x y v u Q I rx ry q
/-- a slot is stored anew: data -/
theorem Core.reim {i : Nat} {v : V} {d d' : PyData} (c : Core σ env H0 H) (h : getS env i = .im d') (r : Rep H0 v d) : Post σ env H0 H (σ.set i (some v)) (env.set i (.im d)) H0 H :=
  c.asg r (by
    unfold asgN
    rw [h, decide_eq_true (getS_lt (by rw [h]; exact fun z => nomatch z))]
    rfl)
theorem s_aug {i : Nat} {o : Op} {e : E} (h : denS (evalS cl wf (.aug i o e)) D σ H) : tAug i (denD (evalE cl e)) (rAug o) D σ H := by
  obtain ⟨env, H0, out, c, ev, k⟩ := h
  rw [evalS] at ev
  split at ev
  · rename_i hsl
    obtain ⟨d0, hsl⟩ := isSome_ex hsl
    have hx : ∃ x, σ[i]? = some (some x) := by
      cases q : getS env i with
      | un => rw [q] at hsl; cases hsl
      | im d => obtain ⟨x, h1, _⟩ := c.im i d q; exact ⟨x, h1⟩
      | mu ds => obtain ⟨a, _, h1, _⟩ := c.cell i ds (by rw [q]; rfl); exact ⟨_, h1⟩
      | pm ds => obtain ⟨a, _, h1, _⟩ := c.cell i ds (by rw [q]; rfl); exact ⟨_, h1⟩
      | bo ds => obtain ⟨a, _, h1, _⟩ := c.cell i ds (by rw [q]; rfl); exact ⟨_, h1⟩
    obtain ⟨x, hx⟩ := hx
    split at ev
    · rename_i r e1 h1
      obtain ⟨e3, h3, rfl⟩ := nxO_some ev
      refine ⟨x, hx, env, H0, r, e1, c, h1, fun y H1 H01 p1 q1 => ?_⟩
      unfold augAt at h3
      split at h3
      · rename_i dx hdx
        split at h3
        · rename_i z hz
          cases h3
          obtain ⟨x', g1, g2⟩ := p1.core.im i dx hdx
          rw [hx] at g1
          cases g1
          refine .inl ⟨H01, dx, _, z, p1.core.sub, g2, q1, hz, fun v H0' H' g q => ?_⟩
          have p2 := p1.grow g
          exact k _ _ _ (p2.trans (p2.core.reim hdx q))
        · cases h3
      · rename_i ds hds
        split at h3
        · split at h3
          · rename_i ys hys
            split at h3
            · rename_i hl
              cases h3
              have hc : cellD (getS e1 i) = some ds := by rw [hds]; rfl
              obtain ⟨a, ws, g1, g2, g3, l, g4⟩ := p1.core.cell i ds hc
              rw [hx] at g1
              cases g1
              rw [hys] at q1
              cases q1 with
              | lst s l2 r2 =>
                have e1 := g4.len
                have e2 := r2.len
                refine .inr ⟨rfl, a, _, ws, _, rfl, rfl, g2, p1.core.sub.rd s, by rw [line_eq]; omega, ?_⟩
                have p2 := p1.core.mut (i := i) (s' := .mu (ds ++ ys)) (by rw [hds]; trivial) rfl hx (by rw [List.length_append]; exact hl) (g4.app r2)
                have hset : σ.set i (some (.ref a)) = σ := by
                  refine List.ext_getElem? fun j => ?_
                  by_cases hj : i = j
                  · subst hj
                    rw [hx, List.getElem?_set_self]
                    by_cases hi : i < σ.length
                    · exact hi
                    · rw [List.getElem?_eq_none (by omega)] at hx
                      cases hx
                  · rw [List.getElem?_set_ne hj]
                show D.nx (σ.set i (some (.ref a))) _
                rw [hset]
                exact k σ _ _ (p1.trans p2)
            · cases h3
          · cases h3
        · cases h3
      · cases h3
    · cases ev
  · cases ev
end
end NG

/-! NG13: loops. -/
namespace NG
open PySem L2 PyProof.Rows HT
section
variable {σ σ' σ1 σ2 : L2.St} {env e1 e2 : NEnv} {H0 H H01 H1 H02 H2 H' H0' : Hp} {D : Ends} {cl : CL} {wf : Nat} {b : Option Nat}
theorem lock_get (hb : ∀ j, b = some j → ∃ ds, cellD (getS e1 j) = some ds) (p : Post σ (lockE b e1) H0 H σ' e2 H0' H') (j : Nat) :
    (b ≠ some j ∧ getS (openE b e1 e2) j = getS e2 j ∧ getS (lockE b e1) j = getS e1 j) ∨
    (b = some j ∧ getS (openE b e1 e2) j = getS e1 j ∧ σ'[j]? = σ[j]? ∧ ∃ ds, cellD (getS e1 j) = some ds ∧ getS (lockE b e1) j = .bo ds ∧ getS e2 j = .bo ds) := by
  cases b with
  | none => exact .inl ⟨fun z => (nomatch z), rfl, rfl⟩
  | some i =>
    obtain ⟨ds, hd⟩ := hb i rfl
    have q := lockE_bo hd
    obtain ⟨q1, q2⟩ := p.pb i ds q
    have hi : i < e2.length := getS_lt (by rw [q1]; exact fun z => nomatch z)
    have e : openE (some i) e1 e2 = e2.set i (getS e1 i) := rfl
    rw [e]
    by_cases hj : i = j
    · subst hj
      exact .inr ⟨rfl, getS_set_same hi, q2, ds, hd, q, q1⟩
    · refine .inl ⟨fun z => hj (Option.some.inj z), getS_set_ne hj, ?_⟩
      rcases lockE_get (some i) e1 j with z | ⟨z, _⟩
      · exact z
      · exact absurd (Option.some.inj z) hj
theorem lock_cell (hb : ∀ j, b = some j → ∃ ds, cellD (getS e1 j) = some ds) (p : Post σ (lockE b e1) H0 H σ' e2 H0' H') (j : Nat) : cellD (getS (openE b e1 e2) j) = cellD (getS e2 j) := by
  rcases lock_get hb p j with ⟨_, q, _⟩ | ⟨_, q, _, ds, q1, _, q2⟩
  · rw [q]
  · rw [q, q2, q1]; rfl
theorem lock_is (hb : ∀ j, b = some j → ∃ ds, cellD (getS e1 j) = some ds) (p : Post σ (lockE b e1) H0 H σ' e2 H0' H') {σx : L2.St} {a : Addr} : IsCell (openE b e1 e2) σx a ↔ IsCell e2 σx a := by
  refine ⟨fun ⟨j, ds, q1, q2⟩ => ⟨j, ds, ?_, q2⟩, fun ⟨j, ds, q1, q2⟩ => ⟨j, ds, ?_, q2⟩⟩
  · rw [← lock_cell hb p]; exact q1
  · rw [lock_cell hb p]; exact q1
theorem lock_is0 {σx : L2.St} {a : Addr} : IsCell (lockE b e1) σx a ↔ IsCell e1 σx a := by
  refine ⟨fun ⟨j, ds, q1, q2⟩ => ⟨j, ds, ?_, q2⟩, fun ⟨j, ds, q1, q2⟩ => ⟨j, ds, ?_, q2⟩⟩
  · rw [← lockE_cell b]; exact q1
  · rw [lockE_cell]; exact q1
theorem Core.lock (c : Core σ e1 H0 H) : Core σ (lockE b e1) H0 H := by
  refine ⟨c.sub, by rw [lockE_len]; exact c.len, fun j d q => c.im j d (lockE_im q), fun j ds q => c.cell j ds (by rw [← lockE_cell b]; exact q), fun i j a q1 q2 => c.inj i j a (by rw [← lockE_cell b]; exact q1) (by rw [← lockE_cell b]; exact q2)⟩
theorem Post.lock (hb : ∀ j, b = some j → ∃ ds, cellD (getS e1 j) = some ds) (p : Post σ (lockE b e1) H0 H σ' e2 H0' H') : Post σ e1 H0 H σ' (openE b e1 e2) H0' H' := by
  have c := p.core
  refine ⟨⟨c.sub, by rw [openE_len]; exact c.len, fun j d q => ?_, fun j ds q => c.cell j ds (by rw [← lock_cell hb p]; exact q), fun i j a q1 q2 => c.inj i j a (by rw [← lock_cell hb p]; exact q1) (by rw [← lock_cell hb p]; exact q2)⟩,
    p.e0, fun x o h n => p.fr x o h fun z => n (lock_is0.mp z), p.tr, fun x h => ?_, fun a h => ?_, fun j ds h => ?_, fun j ds h => ?_⟩
  · rcases lock_get hb p j with ⟨_, e, _⟩ | ⟨_, e, _, ds, q1, _⟩
    · exact c.im j d (by rw [← e]; exact q)
    · rw [← e, q] at q1
      cases q1
  · rcases p.nw x h with q | q | q
    · exact .inl q
    · exact .inr (.inl q)
    · exact .inr (.inr (lock_is0.mp q))
  · rcases p.ic a ((lock_is hb p).mp h) with q | q
    · exact .inl (lock_is0.mp q)
    · exact .inr q
  · rcases lock_get hb p j with ⟨_, e, e'⟩ | ⟨_, e, e', _⟩
    · rw [e]
      exact p.pb j ds (by rw [e']; exact h)
    · exact ⟨by rw [e]; exact h, e'⟩
  · rcases lock_get hb p j with ⟨_, e, e'⟩ | ⟨_, e, e', _⟩
    · rw [e]
      exact p.pp j ds (by rw [e']; exact h)
    · exact ⟨⟨ds, by rw [e]; exact h⟩, e'⟩
theorem ResW.lock {v : V} {r : RV} (hb : ∀ j, b = some j → ∃ ds, cellD (getS e1 j) = some ds) (p : Post σ (lockE b e1) H0 H σ' e2 H0' H') (h : ResW (lockE b e1) σ H e2 σ' H0' H' v r) : ResW e1 σ H (openE b e1 e2) σ' H0' H' v r := by
  cases r with
  | dat d => exact h
  | new ds =>
    obtain ⟨a, ws, e, h1, h2, h3, l, q, n⟩ := h
    refine ⟨a, ws, e, h1.imp lock_is0.mp id, h2, h3, l, q, fun z => n ((lock_is hb p).mp z)⟩
theorem openO_some {o : Option Out} {b : Option Nat} {out : Out} (h : openO b e1 o = some out) : ∃ fo, o = some fo ∧ openO b e1 (some fo) = some out := by
  cases o with
  | none => cases h
  | some fo => exact ⟨fo, rfl, h⟩
/-- for -/
theorem s_for {tg : Tg} {it : It} {body : Ss} (h : denS (evalS cl wf (.for tg it body)) D σ H) : tFor (denIt (evalIt cl it)) (denTg tg) (denS (evalSs cl wf body)) D σ H := by
  obtain ⟨env, H0, out, C, ev, k⟩ := h
  rw [evalS] at ev
  split at ev
  · rename_i ds b e1 hit
    obtain ⟨fo, hfo, hop⟩ := openO_some ev
    refine ⟨env, H0, ds, b, e1, C, hit, fun J H1 H01 P1 wk hb => ?_⟩
    have hbe : ∀ j, b = some j → ∃ es, cellD (getS e1 j) = some es := fun j e => ⟨ds, hb j e⟩
    have c0 : Core σ (lockE b e1) H01 H1 := P1.core.lock
    have wb : ∀ {σ' : L2.St} {e' : NEnv} {Ha Hb : Hp}, Post σ (lockE b e1) H01 H1 σ' e' Ha Hb → ∀ j, b = some j → getS e' j = .bo ds ∧ σ'[j]? = σ[j]? := fun {σ' e' Ha Hb} p j e => p.pb j ds (by rw [e]; exact lockE_bo (hb j e))
    refine ⟨fun i m σi Hi => m = ds.length - i ∧ i ≤ ds.length ∧ ∃ ei H0i, Post σ (lockE b e1) H01 H1 σi ei H0i Hi ∧ forLoop (fun d e => match asgT tg d e with
        | some e2 => evalSs cl wf body e2
        | none => none) (ds.drop i) ei = some fo, ⟨ds.length, by simp, Nat.zero_le _, lockE b e1, H01, .refl c0, hfo⟩, ?_⟩
    rintro i m σi Hi ⟨rfl, hil, ei, H0i, p, g⟩
    obtain ⟨w1, w2⟩ := wk i H0i Hi σi ei p.core p.e0 (wb p)
    by_cases hlt : i < ds.length
    · refine .inr ?_
      have hd : ds[i]? = some ds[i] := List.getElem?_eq_getElem hlt
      have hdrop : ds.drop i = ds[i] :: ds.drop (i + 1) := List.drop_eq_getElem_cons hlt
      rw [hdrop] at g
      unfold forLoop at g
      obtain ⟨go, yl⟩ := w1 _ hd
      refine ⟨go, fun σ' H' => ∃ e H0', Post σ (lockE b e1) H01 H1 σ' e H0' H' ∧ forLoop (fun d e => match asgT tg d e with
        | some e2 => evalSs cl wf body e2
        | none => none) (ds.drop (i + 1)) e = some fo, fun σ' H' ⟨e, H0', q, q2⟩ => ⟨_, by omega, rfl, hlt, e, H0', q, q2⟩, fun x H' y => ?_⟩
      obtain ⟨rfl, rx⟩ := yl x H' y
      cases hasg : asgT tg ds[i] ei with
      | none =>
        rw [hasg] at g
        cases g
      | some e2 =>
        rw [hasg] at g
        simp only at g
        refine ⟨ei, H0i, _, e2, p.core, rx, hasg, fun σ2 pt _ => ?_⟩
        have pt := p.trans pt
        cases hbody : evalSs cl wf body e2 with
        | none =>
          rw [hbody] at g
          cases g
        | some o1 =>
          rw [hbody] at g
          refine ⟨e2, H0i, o1, pt.core, hbody, ?_⟩
          cases o1 with
          | nx e => exact fun σ' H' H0' q => ⟨e, H0', pt.trans q, g⟩
          | ct e => exact fun σ' H' H0' q => ⟨e, H0', pt.trans q, g⟩
          | bk e =>
            cases g
            cases hop
            exact fun σ' H' H0' q => k σ' H' H0' (P1.trans ((pt.trans q).lock hbe))
          | rt r e =>
            cases g
            cases hop
            exact fun v σ' H' H0' q w => k v σ' H' H0' (P1.trans ((pt.trans q).lock hbe)) (((w.back pt).lock hbe (pt.trans q)).back P1)
    · have hi : i = ds.length := by omega
      subst hi
      refine .inl ⟨w2 (Nat.le_refl _), ?_⟩
      rw [List.drop_length] at g
      unfold forLoop at g
      cases g
      cases hop
      exact k σi Hi H0i (P1.trans (p.lock hbe))
  · cases ev
/-- while -/
theorem s_while {c : E} {body : Ss} (h : denS (evalS cl wf (.while c body)) D σ H) : tWhile (denT (evalE cl c)) (denS (evalSs cl wf body)) D σ H := by
  obtain ⟨env, H0, out, C, ev, k⟩ := h
  rw [evalS] at ev
  refine ⟨fun m σi Hi => ∃ ei H0i, Post σ env H0 H σi ei H0i Hi ∧ whLoop (tst (evalE cl c)) (evalSs cl wf body) m ei = some out, ⟨wf, env, H0, .refl C, ev⟩, ?_⟩
  rintro m σi Hi ⟨ei, H0i, p, g⟩
  cases m with
  | zero => unfold whLoop at g; cases g
  | succ m =>
    unfold whLoop at g
    split at g
    · rename_i e1 h1
      refine ⟨ei, H0i, true, e1, p.core, h1, fun H1 H01 p1 => ?_⟩
      have p1 := p.trans p1
      refine iteT ⟨fun σ' H' => ∃ e H0', Post σ env H0 H σ' e H0' H' ∧ whLoop (tst (evalE cl c)) (evalSs cl wf body) m e = some out, fun σ' H' q => ⟨m, Nat.lt_succ_self m, q⟩, ?_⟩
      cases hbody : evalSs cl wf body e1 with
      | none =>
        rw [hbody] at g
        cases g
      | some o1 =>
        rw [hbody] at g
        refine ⟨e1, H01, o1, p1.core, hbody, ?_⟩
        cases o1 with
        | nx e => exact fun σ' H' H0' q => ⟨e, H0', p1.trans q, g⟩
        | ct e => exact fun σ' H' H0' q => ⟨e, H0', p1.trans q, g⟩
        | bk e =>
          cases g
          exact fun σ' H' H0' q => k σ' H' H0' (p1.trans q)
        | rt r e =>
          cases g
          exact fun v σ' H' H0' q w => k v σ' H' H0' (p1.trans q) (w.back p1)
    · rename_i e1 h1
      cases g
      refine ⟨ei, H0i, false, e1, p.core, h1, fun H1 H01 p1 => ?_⟩
      exact iteF (k σi H1 H01 (p.trans p1))
    · cases g
end
end NG

/-! NG14: what is read is what runs: statements. -/
namespace NG
open PySem L2 PyProof.Rows HT

structure SCxt (X : Cx) (g : SE) (cl : CL) (sc : Scope) : Prop where
  c : Cxt X g cl sc
  kd : sc.kind = .function
  fnT : ∀ x, X.fn x = true
  po : PassesOwn (model X.prog X.w) X.A X.env X.xe
section
variable {X : Cx} {g : SE} {cl : CL} {sc : Scope} {wf : Nat}
theorem no_swap {e : Expr} (h : isLC e = false) (t : Option Expr) (l : Nat) (env : Env) : swapsWith e t l env = pure false := by
  cases e <;> first | rfl | (cases h; done)
theorem swap_tup (e : Expr) (ts : List Expr) (k : Nat) (p : Pos) (l : Nat) (env : Env) : swapsWith e (some (.Tuple ts k p)) l env = pure false := by
  cases e <;> rfl
theorem swap_sub (e o i : Expr) (p : Pos) (l : Nat) (env : Env) : swapsWith e (some (.Subscript o i p)) l env = pure false := by
  cases e <;> rfl
theorem stores_name (e : Expr) (x : Str) (p : Pos) (env : Env) : swappedStores [.Name x p] e env = pure none := by
  cases e <;> rfl
theorem stores_sub (e o i : Expr) (p : Pos) (env : Env) : swappedStores [.Subscript o i p] e env = pure none := by
  cases e <;> rfl
theorem stores_tup {e : Expr} (h : ∀ vs k p, e ≠ .Tuple vs k p) (ts : List Expr) (k : Nat) (p : Pos) (env : Env) : swappedStores [.Tuple ts k p] e env = pure none := by
  cases e <;> first | rfl | exact absurd rfl (h _ _ _)
theorem blockKind_fn {env : Env} (h : env.scope.kind = .function) : env.blockKind = .function := by
  unfold Env.blockKind
  rw [h]
  rfl
theorem swap_lc {elt : Expr} {gs : List Comprehension} {scope : Scope} {pos py : Pos} {y : Str} {l : Nat} {env : Env} (hk : env.scope.kind = .function) : swapsWith (.ListComp elt gs scope pos) (some (.Name y py)) l env = pure (lcSwap env.scope y py (.ListComp elt gs scope pos)) := by
  have hb := blockKind_fn hk
  unfold swapsWith lcSwap
  simp only [hb, Expr.pos]
  show pure (true && (env.kindOf y == some .local) && _ && _) = _
  rw [Bool.true_and]
  rfl
theorem no_slc {n : Nat} {e : Expr} {e' : E} (h : cE g n sc e = some e') (o : Expr) (pos : Pos) (env : Env) (v : Value) : assign (.Subscript o e pos) env v = (do
      let ov ← holding [v] (eval o env)
      let iv ← holding [v, ov] (eval e env)
      standAt pos
      holding [v, ov, iv] (setItem ov iv v)
      release [v, ov, iv] []) := by
  cases e <;> first | rfl | (cases n <;> (unfold cE at h; cases h))
theorem slotN_ok (C : Cxt X g cl sc) {x : Str} {i : Nat} (h : slotT g sc (fun _ => true) x = some i) : X.N[i]? = some x ∧ L2.Loc X.env.scope x := by
  unfold slotT at h
  split at h
  · rename_i hl
    exact ⟨by rw [C.N]; exact ixOf_at h, by rw [C.sc]; exact (loc_ok hl).1⟩
  · cases h
/-- the reading of a comprehension's parts -/
theorem cE_lc {n : Nat} {elt : Expr} {gens : List Comprehension} {scope : Scope} {p : Pos} {e' : E} (C : Cxt X g cl sc) (h : cE g n sc (.ListComp elt gens scope p) = some e') :
    ∃ tg it ifs it' tg' c' elt', gens = [⟨tg, it, ifs, 0⟩] ∧ e' = .comp elt' tg' it' c' ((blkOwn g.N scope.names).map (·.2)) ∧ tgIn ((blkOwn g.N scope.names).map (·.2)) tg' = true ∧ (∀ env x, foldedSetIterable it env x = pure x) ∧
    PI X tg it (denIt (evalIt cl it')) ∧ BlkOk X.N X.env.scope scope (blkOwn g.N scope.names) ∧ (∀ (s : Shared) (H : Hp) (A : Addr) (ce : List (Str × Addr)) (fp : List Addr), PG (X.blk s H scope (compEnvC scope ce A X.env) fp) tg (denTg tg')) ∧
    (∀ (s : Shared) (H : Hp) (A : Addr) (ce : List (Str × Addr)) (fp : List Addr), PTs (X.blk s H scope (compEnvC scope ce A X.env) fp) ifs (denC (evalC cl c'))) ∧
    (∀ (s : Shared) (H : Hp) (A : Addr) (ce : List (Str × Addr)) (fp : List Addr), PE (X.blk s H scope (compEnvC scope ce A X.env) fp) elt (denD (evalE cl elt'))) := by
  cases n with
  | zero => unfold cE at h; cases h
  | succ n =>
    unfold cE at h
    simp only at h
    split at h
    · rename_i tg it ifs
      split at h
      · rename_i hb
        split at h
        · rename_i it' tg' c' elt' h1 h2 h3 h4
          split at h
          · rename_i h5
            cases h
            exact ⟨tg, it, ifs, it', tg', c', elt', rfl, rfl, h5, no_setI h1, lc_parts C (snd n) hb h1 h2 h3 h4⟩
          · cases h
        · cases h
      · cases h
    · cases h
theorem s_setLc {n i : Nat} {x : Str} {p q qq : Pos} {elt : Expr} {gens : List Comprehension} {scope : Scope} {e' : E} (C : SCxt X g cl sc) (hx : slotT g sc (fun _ => true) x = some i) (h : cE g n sc (.ListComp elt gens scope qq) = some e') (hs : lcSwap sc x p (.ListComp elt gens scope qq) = true) :
    PS X (.Assign [.Name x p] (.ListComp elt gens scope qq) q) (denS (evalS cl wf (.asg (.name i) e'))) := by
  obtain ⟨h1, h2⟩ := slotN_ok C.c hx
  obtain ⟨tg, it, ifs, it', tg', c', elt', rfl, rfl, k0, k1, k2, k3, k4, k5, k6⟩ := cE_lc C.c h
  have hk : X.env.scope.kind = .function := by rw [C.c.sc]; exact C.kd
  have hsw := swap_lc (elt := elt) (gs := [⟨tg, it, ifs, 0⟩]) (scope := scope) (pos := qq) (py := p) (y := x) (l := q.line) hk
  rw [C.c.sc, hs] at hsw
  have hl : X.env.scope.names.lookup x = some .local := by
    unfold lcSwap at hs
    simp only [Bool.and_eq_true] at hs
    rw [C.c.sc]
    exact eq_of_beq hs.1.1
  refine psI (ps_setLc C.c.calm C.c.nd h1 hl hsw k2 k3 k4 k5 k6 (k1 _)) fun D σ H z => ?_
  exact i_comp k0 (s_asg z)
theorem s_set {n i : Nat} {x : Str} {p q : Pos} {e : Expr} {e' : E} (C : SCxt X g cl sc) (hx : slotT g sc (fun _ => true) x = some i) (h : cE g n sc e = some e') : PS X (.Assign [.Name x p] e q) (denS (evalS cl wf (.asg (.name i) e'))) := by
  obtain ⟨h1, h2⟩ := slotN_ok C.c hx
  have go : swapsWith e (some (.Name x p)) q.line X.env = pure false → PS X (.Assign [.Name x p] e q) (denS (evalS cl wf (.asg (.name i) e'))) := fun hs =>
    psI (ps_set C.c.nd h1 h2 ((snd n).e C.c h).v hs (.inl (C.fnT x))) fun _ _ _ z => s_asg z
  by_cases hl : isLC e = true
  · cases e with
    | ListComp elt gens scope qq =>
      cases hs : lcSwap sc x p (.ListComp elt gens scope qq) with
      | true => exact s_setLc C hx h hs
      | false =>
        refine go ?_
        rw [swap_lc (by rw [C.c.sc]; exact C.kd), C.c.sc, hs]
    | _ => first | (cases hl; done) | (cases n <;> (unfold cE at h; cases h))
  · exact go (no_swap (Bool.not_eq_true _ ▸ hl) _ _ _)
theorem assignEach_sub {n : Nat} {o i : Expr} {p : Pos} (env : Env) : (assignEach [.Subscript o i p] env).map (·.2) = [assign (.Subscript o i p) env] := rfl
theorem sole_tup (e : Expr) (ts : List Expr) (k : Nat) (p : Pos) (l : Nat) (env : Env) : swapsWithSole [.Tuple ts k p] e l env = pure false := by
  unfold swapsWithSole
  exact swap_tup e ts k p l env
theorem sole_sub (e o i : Expr) (p : Pos) (l : Nat) (env : Env) : swapsWithSole [.Subscript o i p] e l env = pure false := by
  unfold swapsWithSole
  exact swap_sub e o i p l env
/-- a, b = x, y: the stores are swapped -/
theorem pair_ok {ts vs : List Expr} {k k2 : Nat} {p p2 : Pos} {env : Env} (hk : env.scope.kind = .function) (h : pair2 env.scope ts vs = true) (hst : (vs.any fun | .Starred .. => true | _ => false) = false) : ∃ x y px py a b, ts = [.Name x px, .Name y py] ∧ vs = [a, b] ∧ x ≠ y ∧
    env.scope.names.lookup x = some .local ∧ env.scope.names.lookup y = some .local ∧ swappedStores [.Tuple ts k p] (.Tuple vs k2 p2) env = pure (some [x, y]) := by
  unfold pair2 at h
  split at h
  · rename_i x px y py a b
    simp only [Bool.and_eq_true, Bool.not_eq_true', beq_eq_false_iff_ne, ne_eq] at h
    obtain ⟨⟨⟨⟨⟨h1, h2⟩, h3⟩, h4⟩, h5⟩, h6⟩ := h
    have h1 : env.kindOf x = some .local := eq_of_beq h1
    have h2 : env.kindOf y = some .local := eq_of_beq h2
    refine ⟨x, y, px, py, a, b, rfl, rfl, h4, h1, h2, ?_⟩
    have hb := blockKind_fn hk
    unfold foldAll at h5
    unfold conAll at h6
    unfold swappedStores
    have hl : (py.line == px.line) = true := h3
    have hx : ([x, y].eraseDups).length = 2 := by
      have : (y == x) = false := by rw [beq_eq_false_iff_ne]; exact fun z => h4 z.symm
      have h7 : (!y == x) = true := by rw [this]; rfl
      rw [List.eraseDups_cons]
      simp [h7, List.eraseDups_cons]
    have hst2 := hst
    simp only [List.any_cons, List.any_nil, Bool.or_false, Bool.or_eq_false_iff] at hst2
    simp only [hb, hst, h5, h6]
    simp only [List.filterMap, h1, h2, hl, List.head?, Option.map, Option.getD, Expr.pos, List.length_cons, List.length_nil]
    simp [hx, hl]
    intro q
    rcases q with q | q
    · have k := hst2.1
      cases a <;> first | (cases q; done) | (cases k; done)
    · have k := hst2.2
      cases b <;> first | (cases q; done) | (cases k; done)
  · cases h
theorem cEs_star : ∀ {es : List Expr} {n : Nat} {es' : Es}, cEs g n sc es = some es' → (es.any fun | .Starred .. => true | _ => false) = false
  | [], _, _, _ => rfl
  | e :: es, 0, _, h => by unfold cEs at h; cases h
  | e :: es, n + 1, _, h => by
    unfold cEs at h
    obtain ⟨e1, es1, h1, h2, _⟩ := consE_some h
    rw [List.any_cons, cEs_star h2, Bool.or_false]
    cases e <;> first | rfl | (cases n <;> (unfold cE at h1; cases h1))
theorem cE_tup {n : Nat} {vs : List Expr} {k : Nat} {p : Pos} {e' : E} (C : Cxt X g cl sc) (h : cE g n sc (.Tuple vs k p) = some e') : ∃ es' n', e' = .tup es' ∧ cEs g n' sc vs = some es' ∧ PA X vs (denEs (evalEs cl es')) := by
  cases n with
  | zero => unfold cE at h; cases h
  | succ n =>
    unfold cE at h
    obtain ⟨es', h1, rfl⟩ := map_some h
    exact ⟨es', n, rfl, h1, ((snd n).es C h1).1⟩
theorem cEs_two {n : Nat} {a b : Expr} {es' : Es} (h : cEs g n sc [a, b] = some es') : ∃ a' b', es' = .cons a' (.cons b' .nil) := by
  cases n with
  | zero => unfold cEs at h; cases h
  | succ n =>
    unfold cEs at h
    obtain ⟨a', es1, _, h2, rfl⟩ := consE_some h
    cases n with
    | zero => unfold cEs at h2; cases h2
    | succ n =>
      unfold cEs at h2
      obtain ⟨b', es2, _, h3, rfl⟩ := consE_some h2
      cases n with
      | zero => unfold cEs at h3; cases h3
      | succ n =>
        unfold cEs at h3
        cases h3
        exact ⟨a', b', rfl⟩
theorem tgNs_two {x y : Str} {px py : Pos} {is : List Nat} (C : Cxt X g cl sc) (h : tgNs g sc (fun _ => true) [.Name x px, .Name y py] = some is) : ∃ i j, is = [i, j] ∧ X.N[i]? = some x ∧ X.N[j]? = some y := by
  unfold tgNs at h
  split at h
  · rename_i i is' h1 h2
    cases h
    unfold tgNs at h2
    split at h2
    · rename_i j is2 h3 h4
      cases h2
      unfold tgNs at h4
      cases h4
      exact ⟨i, j, rfl, (slotN_ok C h1).1, (slotN_ok C h3).1⟩
    · cases h2
  · cases h
theorem s_parOk {n k k2 : Nat} {ts vs : List Expr} {is : List Nat} {e' : E} {p p2 q : Pos} (C : SCxt X g cl sc) (h1 : tgNs g sc (fun _ => true) ts = some is) (h2 : cE g n sc (.Tuple vs k2 p2) = some e') (hp : pair2 sc ts vs = true) :
    PS X (.Assign [.Tuple ts k p] (.Tuple vs k2 p2) q) (denS (evalS cl wf (.asg (.tup is) e'))) := by
  obtain ⟨es', n', rfl, h3, pa⟩ := cE_tup C.c h2
  have hk : X.env.scope.kind = .function := by rw [C.c.sc]; exact C.kd
  rw [← C.c.sc] at hp
  obtain ⟨x, y, px, py, a, b, rfl, rfl, hxy, l1, l2, hw⟩ := pair_ok (k := k) (k2 := k2) (p := p) (p2 := p2) hk hp (cEs_star h3)
  obtain ⟨a', b', rfl⟩ := cEs_two h3
  obtain ⟨i, j, rfl, n1, n2⟩ := tgNs_two C.c h1
  have hij : i ≠ j := fun z => by
    subst z
    rw [n1] at n2
    exact hxy (Option.some.inj n2)
  exact psI (ps_par C.c.calm C.c.nd n1 n2 hij l1 l2 pa hw (sole_tup _ _ _ _ _ _)) fun _ _ _ z => s_par z
theorem s_tupOk {n k : Nat} {ts : List Expr} {is : List Nat} {e : Expr} {e' : E} {p q : Pos} (C : SCxt X g cl sc) (h1 : tgNs g sc (fun _ => true) ts = some is) (h2 : cE g n sc e = some e') (hn : ∀ vs k p, e ≠ .Tuple vs k p) :
    PS X (.Assign [.Tuple ts k p] e q) (denS (evalS cl wf (.asg (.tup is) e'))) := by
  have hg : cTg g sc (fun _ => true) (.Tuple ts k p) = some (.tup is) := by
    show (tgNs g sc (fun _ => true) ts).map Tg.tup = _
    rw [h1]
    rfl
  exact psI (ps_asg ((snd n).e C.c h2).v (cTg_ok C.c.calm C.c.N C.c.nd C.c.sc (fun x _ => C.fnT x) hg) (sole_tup _ _ _ _ _ _) (stores_tup hn _ _ _ _)) fun _ _ _ z => s_asgT z
theorem s_setiOk {n i : Nat} {x : Str} {ix e : Expr} {ix' e' : E} {px p q : Pos} (C : SCxt X g cl sc) (h1 : slotN g sc x = some i) (h2 : cE g n sc ix = some ix') (h3 : cE g n sc e = some e') :
    PS X (.Assign [.Subscript (.Name x px) ix p] e q) (denS (evalS cl wf (.seti i ix' e'))) :=
  psI (ps_asg (peI ((snd n).e C.c h3).v fun _ _ _ z => denD_den z) (pg_sub (e_name C.c h1) ((snd n).e C.c h2).v set_list (no_slc h2 _ _ _)) (sole_sub _ _ _ _ _ _) (stores_sub _ _ _ _ _)) fun _ _ _ z => s_seti z
theorem s_augOk {n i : Nat} {x : Str} {e : Expr} {op : Operator} {o : Op} {e' : E} {px q : Pos} (C : SCxt X g cl sc) (h1 : slotT g sc (fun _ => true) x = some i) (h2 : opOf op = some o) (h3 : cE g n sc e = some e') :
    PS X (.AugAssign (.Name x px) op e q) (denS (evalS cl wf (.aug i o e'))) := by
  obtain ⟨k1, k2⟩ := slotN_ok C.c h1
  exact psI (ps_aug C.c.nd k1 k2 (peI ((snd n).e C.c h3).v fun _ _ _ z => denD_den z) (o_aug h2) (.inl (C.fnT x))) fun _ _ _ z => s_aug z
theorem s_exprOk {n : Nat} {e : Expr} {e' : E} {q : Pos} (C : SCxt X g cl sc) (hl : isLC e = false) (h3 : cE g n sc e = some e') : PS X (.Expr e q) (denS (evalS cl wf (.expr e'))) :=
  psI (ps_expr ((snd n).e C.c h3).v (no_swap hl _ _ _)) fun _ _ _ z => s_expr z
theorem s_appOk {n i : Nat} {x : Str} {a : Expr} {a' : E} {px ap cp q : Pos} (C : SCxt X g cl sc) (hl : (ap.endLine == cp.line) = true) (h1 : slotN g sc x = some i) (h3 : cE g n sc a = some a') :
    PS X (.Expr (.Call (.Attribute (.Name x px) "append" ap) [a] [] cp) q) (denS (evalS cl wf (.app i a'))) := by
  have hs := no_star h3
  refine psI (ps_expr (pe_bm PySem.F.plainAttrs_list PySem.F.slot_list_append PySem.F.type_list_append mt_append (e_name C.c h1) (pa_cons (peI ((snd n).e C.c h3).v fun _ _ _ z => denD_den z) pa_nil (hs _ _)) rfl ?_ hl (hs _ _) rfl)) fun _ _ _ z => s_app z
  rw [hs]
  rfl
theorem s_revOk {i : Nat} {x : Str} {px ap cp q : Pos} (C : SCxt X g cl sc) (hl : (ap.endLine == cp.line) = true) (h1 : slotN g sc x = some i) :
    PS X (.Expr (.Call (.Attribute (.Name x px) "reverse" ap) [] [] cp) q) (denS (evalS cl wf (.rev i))) :=
  psI (ps_expr (pe_bm0 PySem.F.plainAttrs_list PySem.F.slot_list_reverse PySem.F.type_list_reverse mt_reverse (e_name C.c h1) rfl hl)) fun _ _ _ z => s_rev z
theorem s_retOk {n : Nat} {e : Expr} {e' : E} {q : Pos} (C : SCxt X g cl sc) (h3 : cE g n sc e = some e') : PS X (.Return (some e) q) (denS (evalS cl wf (.ret e'))) := by
  have k := (snd (cl := cl) n).e C.c h3
  by_cases hv : ∃ i, e' = .var i
  · obtain ⟨i, rfl⟩ := hv
    exact psI (ps_ret (k.s i rfl)) fun _ _ _ z => s_retV z
  · exact psI (ps_ret k.v) fun _ _ _ z => s_ret (fun i q => hv ⟨i, q⟩) z
theorem methOf_some {e : Expr} {x m : Str} {as : List Expr} (h : methOf e = some (x, m, as)) : ∃ px ap cp, e = .Call (.Attribute (.Name x px) m ap) as [] cp ∧ (ap.endLine == cp.line) = true := by
  unfold methOf at h
  split at h
  · split at h
    · split at h
      · split at h
        · rename_i hl
          cases h
          exact ⟨_, _, _, rfl, hl⟩
        · cases h
      · cases h
    · cases h
  · cases h
theorem one?_some {α : Type} {l : List α} {a : α} (h : one? l = some a) : l = [a] := by
  unfold one? at h
  split at h
  · cases h; rfl
  · cases h

/-! ### the induction -/
structure SSnd (g : SE) (cl : CL) (wf n : Nat) : Prop where
  s : ∀ {X : Cx} {sc : Scope} {st : Stmt} {s' : S}, SCxt X g cl sc → cS g n sc st = some s' → PS X st (denS (evalS cl wf s'))
  ss : ∀ {X : Cx} {sc : Scope} {st : List Stmt} {s' : Ss}, SCxt X g cl sc → cSs g n sc st = some s' → PSs X st (denS (evalSs cl wf s'))
theorem snd_ss {n : Nat} (IH : SSnd g cl wf n) {st : List Stmt} {s' : Ss} (C : SCxt X g cl sc) (h : cSs g (n + 1) sc st = some s') : PSs X st (denS (evalSs cl wf s')) := by
  unfold cSs at h
  cases st with
  | nil =>
    cases h
    exact pssI pss_nil fun _ _ _ z => ss_nil z
  | cons s ss =>
    simp only at h
    split at h
    · rename_i a b h1 h2
      cases h
      exact pssI (pss_cons (IH.s C h1) (IH.ss C h2)) fun _ _ _ z => ss_cons z
    · cases h
theorem snd_s {n : Nat} (IH : SSnd g cl wf n) {st : Stmt} {s' : S} (C : SCxt X g cl sc) (h : cS g (n + 1) sc st = some s') : PS X st (denS (evalS cl wf s')) := by
  unfold cS at h
  cases st with
  | Assign ts e q =>
    cases ts with
    | nil => cases h
    | cons t r =>
      cases r with
      | cons _ _ => cases h
      | nil =>
        cases t with
        | Name x p =>
          simp only at h
          split at h
          · rename_i i e' h1 h2
            cases h
            exact s_set C h1 h2
          · cases h
        | Tuple ts k p =>
          simp only at h
          split at h
          · rename_i is e' h1 h2
            split at h
            · rename_i vs k2 p2
              split at h
              · rename_i hp
                cases h
                exact s_parOk C h1 h2 hp
              · cases h
            · rename_i hn
              cases h
              exact s_tupOk C h1 h2 fun vs k p z => hn vs k p z
          · cases h
        | Subscript o ix p =>
          cases o with
          | Name x px =>
            simp only at h
            split at h
            · rename_i i ix' e' h1 h2 h3
              cases h
              exact s_setiOk C h1 h2 h3
            · cases h
          | _ => cases h
        | _ => cases h
  | AugAssign t op e q =>
    cases t with
    | Name x px =>
      simp only at h
      split at h
      · rename_i i o e' h1 h2 h3
        cases h
        exact s_augOk C h1 h2 h3
      · cases h
    | _ => cases h
  | Expr e q =>
    simp only at h
    split at h
    · rename_i x m as hm
      obtain ⟨px, ap, cp, rfl, hl⟩ := methOf_some hm
      split at h
      · rename_i hmm
        subst hmm
        split at h
        · rename_i a ha
          cases one?_some ha
          split at h
          · rename_i i a' h1 h2
            cases h
            exact s_appOk C hl h1 h2
          · cases h
        · cases h
      · split at h
        · rename_i hmm
          subst hmm
          split at h
          · obtain ⟨i, h1, rfl⟩ := map_some h
            exact s_revOk C hl h1
          · cases h
        · obtain ⟨e', h1, rfl⟩ := map_some h
          exact s_exprOk C rfl h1
    · split at h
      · cases h
      · rename_i hl
        obtain ⟨e', h1, rfl⟩ := map_some h
        exact s_exprOk C (Bool.not_eq_true _ ▸ hl) h1
  | Return v q =>
    cases v with
    | none =>
      cases h
      exact psI ps_retN fun _ _ _ z => s_retN z
    | some e =>
      obtain ⟨e', h1, rfl⟩ := map_some h
      exact s_retOk C h1
  | If c a b q =>
    simp only at h
    split at h
    · rename_i c' a' b' h1 h2 h3
      cases h
      exact psI (ps_if ((snd n).e C.c h1).t (IH.ss C h2) (IH.ss C h3)) fun _ _ _ z => s_if z
    · cases h
  | For tg it body el q =>
    cases el with
    | cons _ _ => cases h
    | nil =>
      simp only at h
      split at h
      · rename_i tg' it' b' h1 h2 h3
        cases h
        exact psI (ps_for C.po C.c.calm ((snd n).it C.c h2) (cTg_ok C.c.calm C.c.N C.c.nd C.c.sc (fun x _ => C.fnT x) h1) (IH.ss C h3) (no_setI h2 _)) fun _ _ _ z => s_for z
      · cases h
  | While c body el q =>
    cases el with
    | cons _ _ => cases h
    | nil =>
      simp only at h
      split at h
      · rename_i c' b' h1 h2
        cases h
        exact psI (ps_while C.po ((snd n).e C.c h1).t (IH.ss C h2)) fun _ _ _ z => s_while z
      · cases h
  | Break q =>
    cases h
    exact psI ps_break fun _ _ _ z => s_brk z
  | Continue q =>
    cases h
    exact psI ps_continue fun _ _ _ z => s_cont z
  | Pass q =>
    cases h
    exact psI ps_pass fun _ _ _ z => s_pass z
  | _ => cases h
theorem sndS : ∀ n : Nat, SSnd g cl wf n
  | 0 => ⟨fun _ h => (by unfold cS at h; cases h), fun _ h => (by unfold cSs at h; cases h)⟩
  | n + 1 => ⟨fun C h => snd_s (sndS n) C h, fun C h => snd_ss (sndS n) C h⟩
end
end NG

/-! NG15: defs keep their promise; the law's end. -/
namespace NG
open PySem L2 PyProof.Rows HT

section
variable {H0 H : Hp}
theorem ArgsR.len : ∀ {vs : List V} {cs : List CArg} {cells : List Addr}, ArgsR H0 H vs cs cells → vs.length = cs.length
  | _, _, _, .nil => rfl
  | _, _, _, .im _ t => by rw [List.length_cons, List.length_cons, t.len]
  | _, _, _, .cell _ _ _ _ t => by rw [List.length_cons, List.length_cons, t.len]
theorem ArgsR.im_at : ∀ {vs : List V} {cs : List CArg} {cells : List Addr}, ArgsR H0 H vs cs cells → ∀ {i : Nat} {d : PyData}, cs[i]? = some (.im d) → ∃ v, vs[i]? = some v ∧ Rep H0 v d
  | _, _, _, .nil, i, d, h => by cases h
  | _, _, _, .im r t, 0, d, h => by cases h; exact ⟨_, rfl, r⟩
  | _, _, _, .im r t, i + 1, d, h => t.im_at (i := i) h
  | _, _, _, .cell _ _ _ _ t, 0, d, h => by cases h
  | _, _, _, .cell _ _ _ _ t, i + 1, d, h => t.im_at (i := i) h
theorem ArgsR.cell_at : ∀ {vs : List V} {cs : List CArg} {cells : List Addr}, ArgsR H0 H vs cs cells → ∀ {i : Nat} {ds : List PyData}, cs[i]? = some (.cell ds) → ∃ a ws, vs[i]? = some (.ref a) ∧ a ∈ cells ∧ H a = some (.lst ws) ∧ H0 a = none ∧ ds.length ≤ 16777216 ∧ Reps H0 ws ds
  | _, _, _, .nil, i, d, h => by cases h
  | _, _, _, .im r t, 0, d, h => by cases h
  | _, _, _, .im r t, i + 1, d, h => t.cell_at (i := i) h
  | _, _, _, .cell h1 h2 l r t, 0, d, h => by cases h; exact ⟨_, _, rfl, List.mem_cons_self, h1, h2, l, r⟩
  | _, _, _, .cell _ _ _ _ t, i + 1, d, h => by
    obtain ⟨a, ws, e, m, q⟩ := t.cell_at (i := i) h
    exact ⟨a, ws, e, List.mem_cons_of_mem _ m, q⟩
theorem ArgsR.inj : ∀ {vs : List V} {cs : List CArg} {cells : List Addr}, ArgsR H0 H vs cs cells → cells.Nodup → ∀ {i j : Nat} {ds es : List PyData} {a : Addr}, cs[i]? = some (.cell ds) → cs[j]? = some (.cell es) → vs[i]? = some (.ref a) → vs[j]? = some (.ref a) → i = j
  | _, _, _, .nil, _, i, j, _, _, _, h, _, _, _ => by cases h
  | _, _, _, .im r t, nd, 0, j, _, _, _, h, _, _, _ => by cases h
  | _, _, _, .im r t, nd, i + 1, 0, _, _, _, _, h, _, _ => by cases h
  | _, _, _, .im r t, nd, i + 1, j + 1, _, _, _, h1, h2, h3, h4 => by rw [t.inj nd (i := i) (j := j) h1 h2 h3 h4]
  | _, _, _, .cell _ _ _ _ t, nd, 0, 0, _, _, _, _, _, _, _ => rfl
  | _, _, _, .cell _ _ _ _ t, nd, 0, j + 1, _, _, _, _, h2, h3, h4 => by
    cases h3
    obtain ⟨b, ws, e, m, _⟩ := t.cell_at (i := j) h2
    have h4 : _ = some (V.ref _) := h4
    rw [List.getElem?_cons_succ, e] at h4
    cases h4
    exact absurd m (List.nodup_cons.mp nd).1
  | _, _, _, .cell _ _ _ _ t, nd, i + 1, 0, _, _, _, h1, _, h3, h4 => by
    cases h4
    obtain ⟨b, ws, e, m, _⟩ := t.cell_at (i := i) h1
    rw [List.getElem?_cons_succ, e] at h3
    cases h3
    exact absurd m (List.nodup_cons.mp nd).1
  | _, _, _, .cell _ _ _ _ t, nd, i + 1, j + 1, _, _, _, h1, h2, h3, h4 => by rw [t.inj (List.nodup_cons.mp nd).2 (i := i) (j := j) h1 h2 h3 h4]
end
theorem startE_get (ns : Nat) (cs : List CArg) (i : Nat) : getS (startE ns cs) i = match cs[i]? with
    | some c => parS c
    | none => .un := by
  unfold getS startE
  by_cases h : i < cs.length
  · rw [List.getElem?_append_left (by rw [List.length_map]; exact h), List.getElem?_map, List.getElem?_eq_getElem h]
    rfl
  · rw [List.getElem?_append_right (by rw [List.length_map]; omega), List.getElem?_eq_none (show cs.length ≤ i by omega), List.getElem?_replicate]
    split <;> rfl
theorem startE_im {ns : Nat} {cs : List CArg} {i : Nat} {d : PyData} (h : getS (startE ns cs) i = .im d) : cs[i]? = some (.im d) := by
  rw [startE_get] at h
  split at h
  · rename_i c hc
    rw [hc]
    cases c with
    | im e => cases h; rfl
    | cell ds => cases h
  · cases h
theorem startE_cell {ns : Nat} {cs : List CArg} {i : Nat} {ds : List PyData} (h : cellD (getS (startE ns cs) i) = some ds) : cs[i]? = some (.cell ds) ∧ getS (startE ns cs) i = .pm ds := by
  rw [startE_get] at h ⊢
  split at h
  · rename_i c hc
    rw [hc]
    cases c with
    | im e => cases h
    | cell es => cases h; exact ⟨rfl, rfl⟩
  · cases h
theorem start_get {N : List Str} {vs : List V} {i : Nat} {v : V} (h : vs[i]? = some v) : (L2.start N vs)[i]? = some (some v) := by
  unfold L2.start
  have hi : i < vs.length := (List.getElem?_eq_some_iff.mp h).1
  rw [List.getElem?_append_left (by rw [List.length_map]; exact hi), List.getElem?_map, h]
  rfl
theorem start_core {N : List Str} {vs : List V} {cs : List CArg} {cells : List Addr} {H0 H : Hp} (hs : Ex H0 H) (r : ArgsR H0 H vs cs cells) (nd : cells.Nodup) : Core (L2.start N vs) (startE N.length cs) H0 H := by
  refine ⟨hs, ?_, fun i d h => ?_, fun i ds h => ?_, fun i j a h1 h2 h3 h4 => ?_⟩
  · unfold L2.start startE
    rw [List.length_append, List.length_append, List.length_map, List.length_map, List.length_replicate, List.length_replicate, r.len]
  · obtain ⟨v, h1, h2⟩ := r.im_at (startE_im h)
    exact ⟨v, start_get h1, h2⟩
  · obtain ⟨a, ws, h1, _, h2⟩ := r.cell_at (startE_cell h).1
    exact ⟨a, ws, start_get h1, h2⟩
  · obtain ⟨ds, k1⟩ := Option.ne_none_iff_exists'.mp h1
    obtain ⟨es, k2⟩ := Option.ne_none_iff_exists'.mp h2
    have c1 := (startE_cell k1).1
    have c2 := (startE_cell k2).1
    obtain ⟨b1, _, e1, _⟩ := r.cell_at c1
    obtain ⟨b2, _, e2, _⟩ := r.cell_at c2
    rw [start_get e1] at h3
    rw [start_get e2] at h4
    cases h3
    cases h4
    exact r.inj nd c1 c2 e1 e2
theorem outs_r {σ' : L2.St} {e : NEnv} {H0 H H0' H' : Hp} (c : Core σ' e H0' H') : ∀ {md : List Bool} {vs : List V} {cs : List CArg} {cells : List Addr} {k : Nat} {outs : List (List PyData)}, argOk md cs = true → ArgsR H0 H vs cs cells →
    (∀ i a ds, cs[i]? = some (.cell ds) → vs[i]? = some (.ref a) → σ'[k + i]? = some (some (.ref a))) → outsE e md k = some outs → CellsR H0' H' cells outs
  | [], _, _, _, k, outs, ha, .nil, _, h => by cases h; exact .nil
  | false :: ms, _, _, _, k, outs, ha, .im r t, hc, h => outs_r c (md := ms) (k := k + 1) ha t (fun i a ds h1 h2 => by
      have := hc (i + 1) a ds h1 h2
      rw [show k + 1 + i = k + (i + 1) by omega]
      exact this) h
  | true :: ms, _, _, _, k, outs, ha, .cell h1 h2 l r t, hc, h => by
    unfold outsE at h
    split at h
    · rename_i ds hd
      obtain ⟨o, ho, rfl⟩ := map_some h
      obtain ⟨a, ws, e1, e2, e3, l2, r2⟩ := c.cell k ds (by rw [hd]; rfl)
      have := hc 0 _ _ rfl rfl
      rw [Nat.add_zero, e1] at this
      cases this
      refine .cons e2 l2 r2 (outs_r c (md := ms) (k := k + 1) ha t (fun i a ds h1 h2 => ?_) ho)
      have := hc (i + 1) a ds h1 h2
      rw [show k + 1 + i = k + (i + 1) by omega]
      exact this
    · cases h
  | true :: ms, _, _, _, k, outs, ha, .im r t, hc, h => by cases ha
  | false :: ms, _, _, _, k, outs, ha, .cell _ _ _ _ t, hc, h => by cases ha
  | [], _, _, _, k, outs, ha, .im r t, _, h => by cases ha
  | [], _, _, _, k, outs, ha, .cell _ _ _ _ t, _, h => by cases ha
  | true :: ms, _, _, _, k, outs, ha, .nil, _, h => by cases ha
  | false :: ms, _, _, _, k, outs, ha, .nil, _, h => by cases ha

/-- an entry of the table, as the top has written it -/
structure Ent (K : PySem.W.Frag) (mg : Str → Option Value) (fns : List (Str × Nat)) (T : Tab) (x : Str) (id : Nat) (f : Addr) (fd : FuncData) (ps : List Str) : Prop where
  df : ∃ d N n qual st, T id = some d ∧ Fun K x qual st f fd ∧ FnScope N ps (defScope st) ∧ ps.length = d.md.length ∧ cSs ⟨N, fns⟩ n (defScope st) (defBody st) = some d.body ∧ d.ns = N.length
  b : Binds K fd ps []
  m : mg x = some (.ref f)
  dbg : (x == ("__debug__" : Str)) = false
section
variable {P : Program} {w : World} {K : PySem.W.Frag} {mg : Str → Option Value} {base : Heap} {fns : List (Str × Nat)} {T : Tab}
theorem ent_zero {x : Str} {id : Nat} {f : Addr} {fd : FuncData} {ps : List Str} (wf : Nat) (E : Ent K mg fns T x id f fd ps) : FnOk P w K mg base CX0 0 f fd ps (spOf (mdT T id) (callAt T wf 0 id)) := by
  refine ⟨fun vs H Q E h => ?_, fun A outer s H args us vs Q E hr e0 hb r h => ?_⟩
  · obtain ⟨_, _, _, _, _, _, _, _, _, h, _⟩ := h
    cases h
  · obtain ⟨_, _, _, _, _, _, _, _, _, h, _⟩ := h
    cases h
/-- one def -/
theorem ent_succ {x : Str} {id k : Nat} {f : Addr} {fd : FuncData} {ps : List Str} (wf : Nat) (E : Ent K mg fns T x id f fd ps) (hb : ∀ x, x ∈ bltNames → mg x = none)
    (IH : ∀ x id, fns.lookup x = some id → ∃ f fd ps, FnOk P w K mg base CX0 k f fd ps (spOf (mdT T id) (callAt T wf k id)) ∧ mg x = some (.ref f) ∧ PySem.W.keepIn K (.ref f) = true ∧ Binds K fd ps [] ∧ (x == ("__debug__" : Str)) = false) :
    FnOk P w K mg base CX0 (k + 1) f fd ps (spOf (mdT T id) (callAt T wf (k + 1) id)) := by
  obtain ⟨d, N, n, qual, st, hT, F, S, hl, hcs, hns⟩ := E.df
  have hmd : mdT T id = d.md := by unfold mdT; rw [hT]
  refine F.ok S (fun vs H Q E h => ?_) fun cdv A outer s H vs Q E hr h => ?_
  · obtain ⟨h, _⟩ := h
    rw [h, hmd, hl]
  · obtain ⟨h0, H0, cs, cells, r, outs, hs, ar, nd, hrun, kk⟩ := h
    have hrun : runD (clAt T wf k) wf d cs = some (r, outs) := by
      have q : callAt T wf (k + 1) id cs = runD ⟨mdT T, callAt T wf k⟩ wf d cs := by
        show (match T id with | some d => runD ⟨mdT T, callAt T wf k⟩ wf d cs | none => none) = _
        rw [hT]
      rw [← hrun, q]
      rfl
    unfold runD at hrun
    split at hrun
    · rename_i ha
      have C : SCxt (cxOf CX0 P w K mg base N qual (defScope st) f cdv A outer s H E).nox ⟨N, fns⟩ (clAt T wf k) (defScope st) := by
        refine ⟨⟨rfl, S.nd, rfl, rfl, ?_, hb, fun x id hx => ?_⟩, S.kind, fun _ => rfl, PassesOwn.never⟩
        · have := hr.un
          show (A.deeper _).units + 65 < cLine
          omega
        · obtain ⟨f, fd, ps, h1, h2⟩ := IH x id hx
          exact ⟨k, f, fd, ps, h1, hr, h2⟩
      refine ⟨_, (sndS (wf := wf) n).ss C hcs, ?_⟩
      cases hev : evalSs (clAt T wf k) wf d.body (startE d.ns cs) with
      | none => rw [hev] at hrun; cases hrun
      | some out =>
        rw [hev] at hrun
        rw [hns] at hev
        have c0 := start_core (N := N) hs ar nd
        -- what a state behind the body gives
        have fin : ∀ {σ' : L2.St} {e : NEnv} {H0' H' : Hp} {v : V} {rr : RV} {oo : List (List PyData)}, Post (L2.start N vs) (startE N.length cs) H0 H σ' e H0' H' → outsE e d.md 0 = some oo → ResW (startE N.length cs) (L2.start N vs) H e σ' H0' H' v rr → (∀ v H0' H', CPost H0 H cells H0' H' → CellsR H0' H' cells oo → ResR H H0' H' v rr → Q v H') → Q v H' := fun {σ' e H0' H' v rr oo} p ho hw kk => by
          have keep : ∀ a, IsCell (startE N.length cs) (L2.start N vs) a → IsCell e σ' a := fun a ⟨i, ds, h1, h2⟩ => by
            obtain ⟨⟨ds', h3⟩, h4⟩ := p.pp i ds (startE_cell h1).2
            exact ⟨i, ds', by rw [h3]; rfl, by rw [h4]; exact h2⟩
          refine kk v H0' H' ⟨p.e0, p.core.sub, fun b o h1 h2 => p.fr b o h1 fun z => ?_, fun b h1 => ?_⟩ ?_ ?_
          · obtain ⟨i, ds, k1, k2⟩ := z
            obtain ⟨a, ws, q1, q2, _⟩ := ar.cell_at (startE_cell k1).1
            rw [start_get q1] at k2
            cases k2
            exact h2 q2
          · rcases p.nw b h1 with q | q | q
            · exact .inl q
            · exact .inr q
            · obtain ⟨ws, _, z⟩ := p.core.isc (keep b q)
              exact absurd z h1
          · refine outs_r p.core ha ar (fun i a ds h1 h2 => ?_) ho
            have q : getS (startE N.length cs) i = .pm ds := by rw [startE_get, h1]; rfl
            rw [Nat.zero_add, (p.pp i ds q).2]
            exact start_get h2
          · cases rr with
            | dat d => exact hw
            | new ds =>
              obtain ⟨a, ws, e1, h1, h2, h3, l, q, nc⟩ := hw
              refine ⟨a, ws, e1, ?_, h2, h3, l, q⟩
              rcases h1 with z | z
              · exact absurd (keep a z) nc
              · exact z
        refine ⟨startE N.length cs, H0, out, c0, hev, ?_⟩
        cases out with
        | nx e =>
          obtain ⟨o, h1, h2⟩ := map_some (show (outsE e d.md 0).map _ = some (r, outs) from hrun)
          cases h2
          exact fun σ' H' H0' p => fin (rr := .dat .none) p h1 .non kk
        | rt rr e =>
          obtain ⟨o, h1, h2⟩ := map_some (show (outsE e d.md 0).map _ = some (r, outs) from hrun)
          cases h2
          exact fun v σ' H' H0' p q => fin p h1 q kk
        | bk e => cases hrun
        | ct e => cases hrun
    · cases hrun
/-- all defs -/
theorem ents_ok (wf : Nat) (hb : ∀ x, x ∈ bltNames → mg x = none) (hall : ∀ x id, fns.lookup x = some id → ∃ f fd ps, Ent K mg fns T x id f fd ps) :
    ∀ k x id f fd ps, Ent K mg fns T x id f fd ps → FnOk P w K mg base CX0 k f fd ps (spOf (mdT T id) (callAt T wf k id))
  | 0, _, _, _, _, _, E => ent_zero wf E
  | k + 1, _, _, _, _, _, E => ent_succ wf E hb fun x id hx => by
    obtain ⟨f, fd, ps, E2⟩ := hall x id hx
    obtain ⟨d, N, n, qual, st, _, F, _⟩ := E2.df
    exact ⟨f, fd, ps, ents_ok wf hb hall k x id f fd ps E2, E2.m, F.kp, E2.b, E2.dbg⟩

/-! ### the law -/
def notList (o : Obj) : Bool := match o.cls with
  | .type n => !(n == "list")
  | _ => true
theorem lookup_mem : ∀ {K : List (Addr × Obj)} {a : Addr} {o : Obj}, K.lookup a = some o → (a, o) ∈ K
  | [], _, _, e => by cases e
  | (b, x) :: r, a, o, e => by
    rw [List.lookup_cons] at e
    split at e
    · rename_i h
      cases e
      rw [eq_of_beq h]
      exact List.mem_cons_self
    · exact List.mem_cons_of_mem _ (lookup_mem e)
def noLists (K : PySem.W.Frag) : Bool := K.all fun p => notList p.2
theorem noLists_ok (h : noLists K = true) {a : Addr} {o : Obj} (l : K.lookup a = some o) : o.cls ≠ .type "list" := fun e => by
  have q := List.all_eq_true.mp h (a, o) (lookup_mem l)
  unfold notList at q
  simp only [e] at q
  exact absurd q (by decide)
theorem reps_ints {H : Hp} : ∀ ns : List Int, Reps H (ns.map V.int) (ns.map PyData.int)
  | [] => .nil
  | n :: ns => .cons (.int n) (reps_ints ns)
theorem law_sp {id k wf : Nat} (hmd : mdT T id = [false]) (h : ∀ ns : List Int, ns.length ≤ 63 → callAt T wf k id [.im (.list (ns.map PyData.int))] = some (.dat (.bool true), [])) (hK : noLists K = true) {H : Hp} {a : Addr} {ns : List Int} {E : XK} (hl : ns.length ≤ 63) (hS : SqL K H a (ns.map V.int)) :
    spOf (mdT T id) (callAt T wf k id) [.ref a] H (fun v _ => v = .bl true) E := by
  rcases hS with hS | ⟨o, its, n, lk, hc, _⟩
  · refine ⟨by rw [hmd]; rfl, H, [.im (.list (ns.map PyData.int))], [], _, _, .refl H, .im (.lst hS (by rw [List.length_map]; omega) (reps_ints ns)) .nil, .nil, h ns hl, fun v H0' H' _ _ r => ?_⟩
    cases (show Rep H0' v (.bool true) from r)
    rfl
  · exact absurd hc (noLists_ok hK lk)
def bltFree (K : PySem.W.Frag) : Bool := bltNames.all fun x => match PySem.W.nsIn K mainGlobals x with
  | some none => true
  | _ => false
theorem bltFree_ok {h : Heap} (X : K.In h) (G : h.Ns mainGlobals mg) (hb : bltFree K = true) : ∀ x, x ∈ bltNames → mg x = none := fun x hx => by
  have q := List.all_eq_true.mp hb x hx
  split at q
  · rename_i e
    exact PySem.W.mg_none_of X G e
  · cases q
end
/-- an entry, from what the top has written -/
theorem ent_mk {K : PySem.W.Frag} {h : Heap} {mg : Str → Option Value} {fns : List (Str × Nat)} {T : Tab} {x qual : Str} {st : Stmt} {id n : Nat} {d : Df} {N ps : List Str} {f : Addr} {oc : Value} {od an : Option Addr} {osl : Array (Option Value)} {kV doc pm cdv ct : Value} (X : K.In h) (G : h.Ns mainGlobals mg)
    (hT : T id = some d) (S : FnScope N ps (defScope st)) (hl : ps.length = d.md.length) (hcs : cSs ⟨N, fns⟩ n (defScope st) (defBody st) = some d.body) (hns : d.ns = N.length)
    (hb : ∀ (kV doc pm : Value) (an : Option Addr) (cdv ct : Value) (us : List Value), us.length = ps.length → bindArgs (PySem.W.fnOf x qual (defArgs st) (defBody st) (defScope st) .none kV doc pm an cdv ct) ⟨us, []⟩ = pure (ps.zip us)) (hd : (x == ("__debug__" : Str)) = false)
    (a : PySem.W.nsIn K mainGlobals x = some (some (.ref f))) (l : K.lookup f = some ⟨oc, od, .func (PySem.W.fnOf x qual (defArgs st) (defBody st) (defScope st) .none kV doc pm an cdv ct), osl⟩) (c : PySem.W.codeIn K cdv qual = true) (k : PySem.W.keepIn K (.ref f) = true) :
    Ent K mg fns T x id f (PySem.W.fnOf x qual (defArgs st) (defBody st) (defScope st) .none kV doc pm an cdv ct) ps :=
  have F := fun_mk (st := st) l c k
  ⟨⟨d, N, n, qual, st, hT, F, S, hl, hcs, hns⟩, F.binds hb, PySem.W.mg_of X G a, hd⟩
theorem walk_ng {l : PySem.W.OpenLaw} {q : Program} {loose : List Str} {XP : (Str → Option Value) → Heap → Prop} {YP : World → Heap → Prop} {d : DefRec} {K : Params → PySem.W.Frag} {fns : List (Str × Nat)} {T : Tab} {id : Nat} (k wf : Nat) (hn : l.most = some 63) (hdf : d.params.defaults = []) (hr : Room k callerA)
    (hY : ∀ (w : World) (h : Heap), YP w h → (K w.params).In h) (hmd : mdT T id = [false]) (hlaw : ∀ ns : List Int, ns.length ≤ 63 → callAt T wf k id [.im (.list (ns.map PyData.int))] = some (.dat (.bool true), []))
    (hK : ∀ w : World, noLists (K w.params) = true) (hB : ∀ w : World, bltFree (K w.params) = true)
    (F : ∀ (w : World) (mg : Str → Option Value) (fa : Addr) (h : Heap), (K w.params).In h → h.Ns mainGlobals mg → mg d.name = some (.ref fa) →
      ∃ fd : FuncData, (∀ (s : Shared) (u : Value), BindsTo s fd ⟨[u], []⟩ [("script", u)]) ∧ Ent (K w.params) mg fns T d.name id fa fd ["script"] ∧ ∀ x id, fns.lookup x = some id → ∃ f fd ps, Ent (K w.params) mg fns T x id f fd ps) :
    PySem.W.WalkO q loose XP YP l.row.toRowW d [] (fun f vs => PySem.call f vs) :=
  L2.walk_of (n := 63) (k := k) (x := "script") (CX := fun _ => CX0) (sp := fun w => spOf (mdT T id) (callAt T wf k id)) hn (by decide) hdf hr hY (fun w mg fa h X G hmg => by
    obtain ⟨fd, h1, h2, h3⟩ := F w mg fa h X G hmg
    exact ⟨fd, h1, fun base _ _ => ents_ok wf (bltFree_ok X G (hB w)) h3 k _ _ _ _ _ h2⟩) (fun w H a ns hl _ hS => law_sp hmd hlaw (hK w) hl hS) fun _ _ _ _ _ z => z
end NG

namespace NG
open PySem L2
abbrev il (ns : List Int) : List PyData := ns.map PyData.int
def takeB : Ss := (.cons (.iff (.bin .eq (.bi .len (.cons (.var 0) .nil)) (.cI 0)) (.cons (.ret (.cI 0)) .nil) .nil) (.cons (.ret (.bin .mod (.bi .int (.cons (.pop 0) .nil)) (.var 1))) .nil))
def takeD : Df := ⟨2, [true, false], takeB⟩
def takeV (ds : List Int) (m : Int) : Int := match ds.getLast? with
  | none => 0
  | some x => x.fmod m
theorem call_eq {T : Tab} {wf k id : Nat} {d : Df} (h : T id = some d) (as : List CArg) : callAt T wf (k + 1) id as = runD (clAt T wf k) wf d as := by
  show (match T id with | some d => runD ⟨mdT T, callAt T wf k⟩ wf d as | none => none) = _
  rw [h]
  rfl
theorem eqv_int (i j : Int) : PyData.eqv (.int i) (.int j) = decide (i = j) := by
  unfold PyData.eqv
  rfl
theorem shal_int (i : Int) (d : PyData) : shal d (.int i) = true := by
  unfold shal
  simp [PyData.depth]
theorem take_spec {T : Tab} {wf k id : Nat} (h : T id = some takeD) (ds : List Int) (m : Int) (hm : m ≠ 0) : callAt T wf (k + 1) id [.cell (il ds), .im (.int m)] = some (.dat (.int (takeV ds m)), [il ds.dropLast]) := by
  rw [call_eq h]
  unfold runD
  cases hg : ds.getLast? with
  | none =>
    have : ds = [] := List.getLast?_eq_none_iff.mp hg
    subst this
    simp [takeD, takeB, argOk, startE, parS, endD, evalSs, evalS, seqO, tst, evalE, evB, getS, RV.d, resB, slD, bi1, lenD, opB, op2, shal_int, eqv_int, retE, outsE, takeV]
  | some x =>
    have hne : ds ≠ [] := fun e => by subst e; cases hg
    have hl : ds.length ≠ 0 := fun e => hne (List.eq_nil_of_length_eq_zero e)
    have hl2 : ((ds.length : Int) = 0) = False := by simpa using hne
    simp [takeD, takeB, argOk, startE, parS, endD, evalSs, evalS, seqO, tst, evalE, evB, getS, RV.d, resB, slD, bi1, lenD, opB, op2, shal_int, eqv_int, retE, outsE, takeV, hl2, hne, hg, hm]

/-! loops -/
theorem for_inv {body : PyData → NEnv → Option Out} (P : Nat → NEnv → Prop) : ∀ (ds : List PyData) (n : Nat) (env : NEnv), P n env → (∀ i d e, ds[i]? = some d → P (n + i) e → ∃ e', (body d e = some (.nx e') ∨ body d e = some (.ct e')) ∧ P (n + i + 1) e') → ∃ e', forLoop body ds env = some (.nx e') ∧ P (n + ds.length) e'
  | [], n, env, h0, _ => ⟨env, rfl, h0⟩
  | d :: ds, n, env, h0, hs => by
    obtain ⟨e1, h1, h2⟩ := hs 0 d env rfl h0
    obtain ⟨e2, h3, h4⟩ := for_inv P ds (n + 1) e1 h2 fun i d e hd hp => by
      have := hs (i + 1) d e hd (by rw [show n + (i + 1) = n + 1 + i by omega]; exact hp)
      rw [show n + (i + 1) + 1 = n + 1 + i + 1 by omega] at this
      exact this
    refine ⟨e2, ?_, by rw [List.length_cons, show n + (ds.length + 1) = n + 1 + ds.length by omega]; exact h4⟩
    unfold forLoop
    rcases h1 with h1 | h1 <;> rw [h1] <;> exact h3
/-- a loop that may return -/
theorem for_ret {body : PyData → NEnv → Option Out} (P : Nat → NEnv → Prop) (R : Out → Prop) : ∀ (ds : List PyData) (n : Nat) (env : NEnv), P n env → (∀ i d e, ds[i]? = some d → P (n + i) e → (∃ e', (body d e = some (.nx e') ∨ body d e = some (.ct e')) ∧ P (n + i + 1) e') ∨ (∃ r e', body d e = some (.rt r e') ∧ R (.rt r e')) ∨ (∃ e', body d e = some (.bk e') ∧ R (.nx e'))) →
    (∀ e, P (n + ds.length) e → R (.nx e)) → ∃ o, forLoop body ds env = some o ∧ R o
  | [], n, env, h0, _, hd => ⟨.nx env, rfl, hd env h0⟩
  | d :: ds, n, env, h0, hs, hd => by
    rcases hs 0 d env rfl h0 with ⟨e1, h1, h2⟩ | ⟨r, e1, h1, h2⟩ | ⟨e1, h1, h2⟩
    · obtain ⟨o, h3, h4⟩ := for_ret P R ds (n + 1) e1 h2 (fun i d e hd hp => by
        have := hs (i + 1) d e hd (by rw [show n + (i + 1) = n + 1 + i by omega]; exact hp)
        rw [show n + (i + 1) + 1 = n + 1 + i + 1 by omega] at this
        exact this) fun e hp => hd e (by rw [List.length_cons, show n + (ds.length + 1) = n + 1 + ds.length by omega]; exact hp)
      refine ⟨o, ?_, h4⟩
      unfold forLoop
      rcases h1 with h1 | h1 <;> rw [h1] <;> exact h3
    · refine ⟨_, ?_, h2⟩
      unfold forLoop
      rw [h1]
    · refine ⟨_, ?_, h2⟩
      unfold forLoop
      rw [h1]
theorem lc_inv {turn : PyData → NEnv → Option (List PyData × NEnv)} (I : NEnv → Prop) (f : PyData → List PyData) : ∀ (ds : List PyData) (env : NEnv), I env → (∀ d e, d ∈ ds → I e → ∃ e', turn d e = some (f d, e') ∧ I e') → ∃ e', lcLoop turn ds env = some (ds.flatMap f, e') ∧ I e'
  | [], env, h0, _ => ⟨env, rfl, h0⟩
  | d :: ds, env, h0, hs => by
    obtain ⟨e1, h1, h2⟩ := hs d env List.mem_cons_self h0
    obtain ⟨e2, h3, h4⟩ := lc_inv I f ds e1 h2 fun d e hd => hs d e (List.mem_cons_of_mem _ hd)
    refine ⟨e2, ?_, h4⟩
    unfold lcLoop
    rw [h1]
    simp only
    rw [h3]
    rfl
/-- a comprehension whose values are not told, only that they are -/
theorem lc_some {turn : PyData → NEnv → Option (List PyData × NEnv)} (P : Nat → List PyData → NEnv → Prop) : ∀ (ds : List PyData) (n : Nat) (acc : List PyData) (env : NEnv), P n acc env → (∀ i d acc e, ds[i]? = some d → P (n + i) acc e → ∃ xs e', turn d e = some (xs, e') ∧ P (n + i + 1) (acc ++ xs) e') → ∃ rs e', lcLoop turn ds env = some (rs, e') ∧ P (n + ds.length) (acc ++ rs) e'
  | [], n, acc, env, h0, _ => ⟨[], env, rfl, by rw [List.append_nil]; exact h0⟩
  | d :: ds, n, acc, env, h0, hs => by
    obtain ⟨xs, e1, h1, h2⟩ := hs 0 d acc env rfl h0
    obtain ⟨rs, e2, h3, h4⟩ := lc_some P ds (n + 1) (acc ++ xs) e1 h2 fun i d acc e hd hp => by
      have := hs (i + 1) d acc e hd (by rw [show n + (i + 1) = n + 1 + i by omega]; exact hp)
      rw [show n + (i + 1) + 1 = n + 1 + i + 1 by omega] at this
      exact this
    refine ⟨xs ++ rs, e2, ?_, by rw [List.length_cons, show n + (ds.length + 1) = n + 1 + ds.length by omega, ← List.append_assoc]; exact h4⟩
    unfold lcLoop
    rw [h1]
    simp only
    rw [h3]

/-! small steps -/
theorem okSt_un : okSt .un = true := rfl
theorem okSt_im (d : PyData) : okSt (.im d) = true := rfl
theorem okSt_mu (ds : List PyData) : okSt (.mu ds) = true := rfl
theorem asgR_d (i : Nat) (d : PyData) (e : NEnv) : asgR (.name i) (.dat d) e = asgN i d e := rfl
theorem asgR_n (i : Nat) (ds : List PyData) (e : NEnv) : asgR (.name i) (.new ds) e = if i < e.length && okSt (getS e i) then some (e.set i (.mu ds)) else none := rfl
theorem asgT_n (i : Nat) (d : PyData) (e : NEnv) : asgT (.name i) d e = asgN i d e := rfl
theorem asgT_t (is : List Nat) (ds : List PyData) (e : NEnv) : asgT (.tup is) (.tuple ds) e = asgs is ds e := rfl
theorem asgR_t (is : List Nat) (ds : List PyData) (e : NEnv) : asgR (.tup is) (.dat (.tuple ds)) e = asgs is ds e := rfl
theorem nxO_s (e : NEnv) : nxO (some e) = some (.nx e) := rfl
theorem seqO_nx (e : NEnv) (k : NEnv → Option Out) : seqO (some (.nx e)) k = k e := rfl
theorem seqO_rt (r : RV) (e : NEnv) (k : NEnv → Option Out) : seqO (some (.rt r e)) k = some (.rt r e) := rfl
theorem seqO_bk (e : NEnv) (k : NEnv → Option Out) : seqO (some (.bk e)) k = some (.bk e) := rfl
theorem seqO_ct (e : NEnv) (k : NEnv → Option Out) : seqO (some (.ct e)) k = some (.ct e) := rfl

theorem cellD_un : cellD .un = none := rfl
theorem cellD_im (d : PyData) : cellD (.im d) = none := rfl
theorem cellD_mu (ds : List PyData) : cellD (.mu ds) = some ds := rfl
theorem cellD_pm (ds : List PyData) : cellD (.pm ds) = some ds := rfl
theorem cellD_bo (ds : List PyData) : cellD (.bo ds) = some ds := rfl
theorem getS_put {e : NEnv} {v : Nat} {s : Sl} (h : v < e.length) : getS (e.set v s) v = s := getS_set_same h
theorem set_self {e : NEnv} {v : Nat} : e.set v (getS e v) = e := by
  by_cases h : v < e.length
  · unfold getS
    rw [List.getElem?_eq_getElem h]
    exact List.set_getElem_self h
  · exact List.set_eq_of_length_le (by omega)
/-- a turn of a comprehension with one own name -/
def tu (cl : CL) (v : Nat) (c : Oe) (elt : E) (d : PyData) (e : NEnv) : Option (List PyData × NEnv) := if noC [v] e then match asgT (.name v) d (wipeE e [v]) with
        | some e2 => match evalC cl c e2 with
          | some (true, e3) => match evalE cl elt e3 with
            | some (r, e4) => some ([r.d], e4)
            | none => none
          | some (false, e3) => some ([], e3)
          | none => none
        | none => none else none
theorem tu_eq {cl : CL} {v : Nat} {c : Oe} {elt : E} {d : PyData} {e : NEnv} (hv : v < e.length) (hn : cellD (getS e v) = none) : tu cl v c elt d e = match evalC cl c (e.set v (.im d)) with
          | some (true, e3) => match evalE cl elt e3 with
            | some (r, e4) => some ([r.d], e4)
            | none => none
          | some (false, e3) => some ([], e3)
          | none => none := by
  have h1 : noC [v] e = true := by simp [noC, hn]
  have h2 : asgT (.name v) d (wipeE e [v]) = some (e.set v (.im d)) := by
    show asgN v d (e.set v .un) = _
    unfold asgN
    rw [getS_put hv, List.length_set, List.set_set]
    simp [hv, okSt_un]
  unfold tu
  rw [if_pos h1, h2]
theorem openE_lock {b : Option Nat} {e : NEnv} : openE b e (lockE b e) = e := by
  cases b with
  | none => rfl
  | some i =>
    unfold openE lockE
    simp only
    split
    · rw [List.set_set]; exact set_self
    · rw [List.set_set]; exact set_self
    · exact set_self
/-- a comprehension over a state: E tells the frame by the state (the own name's slot empty) -/
theorem comp1S {α : Type} {cl : CL} {elt : E} {it : It} {c : Oe} {v : Nat} {env e1 : NEnv} {ds : List PyData} {b : Option Nat} (E : α → NEnv) (P : Nat → List PyData → α → Prop) (s0 : α) (hit : evalIt cl it env = some (ds, b, e1)) (hb : b ≠ some v) (hE : lockE b e1 = E s0) (hv : v < e1.length)
    (hl : ∀ s, (E s).length = e1.length) (hc : cellD (getS e1 v) = none) (hg : ∀ s, getS (E s) v = getS e1 v) (h0 : P 0 [] s0)
    (hs : ∀ i d acc s, ds[i]? = some d → P i acc s → ∃ s1, (∃ r s', evalC cl c ((E s).set v (.im d)) = some (true, (E s1).set v (.im d)) ∧ evalE cl elt ((E s1).set v (.im d)) = some (r, (E s').set v (.im d)) ∧ P (i + 1) (acc ++ [r.d]) s') ∨ (evalC cl c ((E s).set v (.im d)) = some (false, (E s1).set v (.im d)) ∧ P (i + 1) acc s1))
    (hz : ∀ rs s, P ds.length rs s → rs.length ≤ 16777216) : ∃ rs s, evalE cl (.comp elt (.name v) it c [v]) env = some (.new rs, openE b e1 (E s)) ∧ P ds.length rs s := by
  obtain ⟨rs, e', h1, h2⟩ := lc_some (turn := tu cl v c elt) (fun i acc e => ∃ s x, (cellD x = none) ∧ e = (E s).set v x ∧ P i acc s) ds 0 [] (lockE b e1) ⟨s0, getS e1 v, hc, by rw [hE, ← hg s0, set_self], h0⟩ fun i d acc e hd ⟨s, x, hx, he, hp⟩ => by
    rw [Nat.zero_add] at hp
    subst he
    have hv2 : v < ((E s).set v x).length := by rw [List.length_set, hl]; exact hv
    have hv3 : v < (E s).length := by rw [hl]; exact hv
    rw [tu_eq hv2 (by rw [getS_put hv3]; exact hx), List.set_set]
    obtain ⟨s1, ⟨r, s', k1, k2, k3⟩ | ⟨k1, k2⟩⟩ := hs i d acc s hd hp
    · rw [k1]
      simp only
      rw [k2]
      exact ⟨_, _, rfl, s', _, rfl, rfl, by rw [Nat.zero_add]; exact k3⟩
    · rw [k1]
      exact ⟨_, _, rfl, s1, _, rfl, rfl, by rw [Nat.zero_add, List.append_nil]; exact k2⟩
  obtain ⟨s, x, hx, he, hp⟩ := h2
  rw [Nat.zero_add, List.nil_append] at hp
  subst he
  refine ⟨rs, s, ?_, hp⟩
  have hv3 : v < (E s).length := by rw [hl]; exact hv
  have w1 : okW b [v] = true := by
    cases b with
    | none => rfl
    | some j =>
      have : j ≠ v := fun z => hb (by rw [z])
      simp [okW, this]
  have w2 : noC [v] e1 = true := by simp [noC, hc]
  have w3 : noC [v] ((E s).set v x) = true := by simp [noC, getS_put hv3, hx]
  rw [evalE, hit]
  simp only
  rw [if_pos (by rw [w1, w2]; rfl)]
  have h1 : lcLoop (lcTurn (.name v) [v] (evalC cl c) (evalE cl elt)) ds (lockE b e1) = some (rs, (E s).set v x) := h1
  split
  · rename_i rs' e2 hq
    have hq : lcLoop (lcTurn (.name v) [v] (evalC cl c) (evalE cl elt)) ds (lockE b e1) = some (rs', e2) := hq
    rw [h1] at hq
    cases hq
    rw [if_pos (by rw [w3, Bool.and_true, decide_eq_true_eq]; exact hz rs s hp)]
    have : backE e1 ((E s).set v x) [v] = E s := by
      show ((E s).set v x).set v (getS e1 v) = E s
      rw [List.set_set, ← hg s, set_self]
    rw [this]
  · rename_i hq
    have hq : lcLoop (lcTurn (.name v) [v] (evalC cl c) (evalE cl elt)) ds (lockE b e1) = none := hq
    rw [h1] at hq
    cases hq
/-- a comprehension that leaves the frame as it is -/
theorem comp1 {cl : CL} {elt : E} {it : It} {c : Oe} {v : Nat} {env e1 : NEnv} {ds : List PyData} {b : Option Nat} (f : PyData → List PyData) (hit : evalIt cl it env = some (ds, b, e1)) (hb : b ≠ some v) (hv : v < e1.length) (hc : cellD (getS e1 v) = none)
    (hs : ∀ d, d ∈ ds → (∃ r, evalC cl c ((lockE b e1).set v (.im d)) = some (true, (lockE b e1).set v (.im d)) ∧ evalE cl elt ((lockE b e1).set v (.im d)) = some (r, (lockE b e1).set v (.im d)) ∧ f d = [r.d]) ∨ (evalC cl c ((lockE b e1).set v (.im d)) = some (false, (lockE b e1).set v (.im d)) ∧ f d = []))
    (hz : (ds.flatMap f).length ≤ 16777216) : evalE cl (.comp elt (.name v) it c [v]) env = some (.new (ds.flatMap f), e1) := by
  have hg : getS (lockE b e1) v = getS e1 v := by
    rcases lockE_get b e1 v with h | ⟨h, _⟩
    · exact h
    · exact absurd h hb
  obtain ⟨rs, s, h1, h2⟩ := comp1S (α := Unit) (cl := cl) (elt := elt) (c := c) (fun _ => lockE b e1) (fun i acc _ => acc = (ds.take i).flatMap f) () hit hb rfl hv (fun _ => lockE_len b e1) hc (fun _ => hg) (by simp) (fun i d acc _ hd hp => by
    have hi := (List.getElem?_eq_some_iff.mp hd)
    obtain ⟨hi, he⟩ := hi
    have ht : ds.take (i + 1) = ds.take i ++ [d] := by rw [← he, List.take_append_getElem hi]
    refine ⟨(), ?_⟩
    rcases hs d (by rw [← he]; exact List.getElem_mem hi) with ⟨r, k1, k2, k3⟩ | ⟨k1, k2⟩
    · exact .inl ⟨r, (), k1, k2, by rw [hp, ht]; simp [k3]⟩
    · exact .inr ⟨k1, by rw [hp, ht]; simp [k2]⟩) (fun rs _ h => by rw [h, List.take_length]; exact hz)
  rw [h1, h2, List.take_length, openE_lock]

/-- a turn of a for -/
def tuF (cl : CL) (wf : Nat) (tg : Tg) (body : Ss) (d : PyData) (e : NEnv) : Option Out := match asgT tg d e with
        | some e2 => evalSs cl wf body e2
        | none => none
theorem for_eq {cl : CL} {wf : Nat} {tg : Tg} {it : It} {body : Ss} {env e1 : NEnv} {ds : List PyData} {b : Option Nat} (hit : evalIt cl it env = some (ds, b, e1)) : evalS cl wf (.for tg it body) env = openO b e1 (forLoop (tuF cl wf tg body) ds (lockE b e1)) := by
  rw [evalS, hit]
  rfl
/-- a for that runs through -/
theorem for_run {cl : CL} {wf : Nat} {tg : Tg} {it : It} {body : Ss} {env e1 : NEnv} {ds : List PyData} {b : Option Nat} (P : Nat → NEnv → Prop) (hit : evalIt cl it env = some (ds, b, e1)) (h0 : P 0 (lockE b e1))
    (hs : ∀ i d e, ds[i]? = some d → P i e → ∃ e2, asgT tg d e = some e2 ∧ ∃ e', (evalSs cl wf body e2 = some (.nx e') ∨ evalSs cl wf body e2 = some (.ct e')) ∧ P (i + 1) e') : ∃ e', evalS cl wf (.for tg it body) env = some (.nx (openE b e1 e')) ∧ P ds.length e' := by
  obtain ⟨e', h1, h2⟩ := for_inv (body := tuF cl wf tg body) P ds 0 (lockE b e1) h0 fun i d e hd hp => by
    rw [Nat.zero_add] at hp ⊢
    obtain ⟨e2, k1, e', k2, k3⟩ := hs i d e hd hp
    refine ⟨e', ?_, k3⟩
    unfold tuF
    rw [k1]
    exact k2
  rw [Nat.zero_add] at h2
  exact ⟨e', by rw [for_eq hit, h1]; rfl, h2⟩
/-- a for that may return (R tells of what it returns, of a break's frame, of its end) -/
theorem for_runR {cl : CL} {wf : Nat} {tg : Tg} {it : It} {body : Ss} {env e1 : NEnv} {ds : List PyData} {b : Option Nat} (P : Nat → NEnv → Prop) (R : Out → Prop) (hit : evalIt cl it env = some (ds, b, e1)) (h0 : P 0 (lockE b e1))
    (hs : ∀ i d e, ds[i]? = some d → P i e → ∃ e2, asgT tg d e = some e2 ∧ ((∃ e', (evalSs cl wf body e2 = some (.nx e') ∨ evalSs cl wf body e2 = some (.ct e')) ∧ P (i + 1) e') ∨ (∃ r e', evalSs cl wf body e2 = some (.rt r e') ∧ R (.rt r e')) ∨ (∃ e', evalSs cl wf body e2 = some (.bk e') ∧ R (.nx e'))))
    (hd : ∀ e, P ds.length e → R (.nx e)) : ∃ o, evalS cl wf (.for tg it body) env = openO b e1 (some o) ∧ R o := by
  obtain ⟨o, h1, h2⟩ := for_ret (body := tuF cl wf tg body) P R ds 0 (lockE b e1) h0 (fun i d e hd hp => by
    rw [Nat.zero_add] at hp ⊢
    obtain ⟨e2, k1, k2⟩ := hs i d e hd hp
    have : tuF cl wf tg body d e = evalSs cl wf body e2 := by
      unfold tuF
      rw [k1]
    rw [this]
    exact k2) fun e hp => hd e (by rw [Nat.zero_add] at hp; exact hp)
  exact ⟨o, by rw [for_eq hit, h1], h2⟩
theorem ss_cons_nx {cl : CL} {wf : Nat} {s : S} {ss : Ss} {env e : NEnv} (h : evalS cl wf s env = some (.nx e)) : evalSs cl wf (.cons s ss) env = evalSs cl wf ss e := by
  rw [evalSs, h]
  rfl
theorem ss_cons_rt {cl : CL} {wf : Nat} {s : S} {ss : Ss} {env e : NEnv} {r : RV} (h : evalS cl wf s env = some (.rt r e)) : evalSs cl wf (.cons s ss) env = some (.rt r e) := by
  rw [evalSs, h]
  rfl
theorem clAt_run (T : Tab) (wf k : Nat) : (clAt T wf k).run = callAt T wf k := rfl
theorem clAt_md (T : Tab) (wf k : Nat) : (clAt T wf k).md = mdT T := rfl
theorem run_eq {T : Tab} {wf k id : Nat} {d : Df} {as : List CArg} {r : RV} {b : Ss} {e0 e : NEnv} {outs : List (List PyData)} (h : T id = some d) (ha : argOk d.md as = true) (hb : d.body = b) (hs : startE d.ns as = e0) (hr : evalSs (clAt T wf k) wf b e0 = some (.rt r e)) (ho : outsE e d.md 0 = some outs) : callAt T wf (k + 1) id as = some (r, outs) := by
  rw [call_eq h]
  unfold runD
  rw [if_pos ha, hb, hs, hr]
  show (outsE e d.md 0).map _ = _
  rw [ho]
  rfl

/-- no variable -/
def nv : E → Bool
  | .var _ => false
  | .cN => true
  | .cB _ => true
  | .cI _ => true
  | .cS _ => true
  | .bin _ _ _ => true
  | .chain _ _ _ _ _ => true
  | .neg _ => true
  | .not _ => true
  | .and _ _ => true
  | .or _ _ => true
  | .ite _ _ _ => true
  | .tup _ => true
  | .lst _ => true
  | .sli _ _ _ => true
  | .call _ _ => true
  | .bi _ _ => true
  | .birng _ _ => true
  | .pop _ => true
  | .isi _ _ => true
  | .comp _ _ _ _ _ => true
  | .comp2 _ _ _ _ _ _ _ _ _ => true
  | .sset _ => true
theorem nv_ne {e : E} (h : nv e = true) (i : Nat) : e ≠ .var i := fun z => by subst z; cases h
def bval : Option (RV × NEnv) → Option (BV × NEnv)
  | some (r, e) => some (.val r.d, e)
  | none => none
def rval : Option (RV × NEnv) → Option Out
  | some (r, e) => some (.rt r e)
  | none => none
def aval : Option (RV × NEnv) → Option (AV × NEnv)
  | some (r, e) => some (.im r.d, e)
  | none => none
theorem evB_v (ev : NEnv → Option (RV × NEnv)) (i : Nat) (env : NEnv) : evB ev (.var i) env = match getS env i with
    | .im d => some (.val d, env)
    | .mu _ => some (.slot i, env)
    | .pm _ => some (.slot i, env)
    | .bo _ => some (.slot i, env)
    | .un => none := rfl
theorem evB_nv (ev : NEnv → Option (RV × NEnv)) {e : E} (env : NEnv) (h : nv e = true) : evB ev e env = bval (ev env) := by
  unfold evB
  split
  · cases h
  · cases q : ev env with
    | none => rfl
    | some p => obtain ⟨r, e1⟩ := p; rfl
theorem bval_s (r : RV) (e : NEnv) : bval (some (r, e)) = some (.val r.d, e) := rfl
theorem rval_s (r : RV) (e : NEnv) : rval (some (r, e)) = some (.rt r e) := rfl
theorem aval_s (r : RV) (e : NEnv) : aval (some (r, e)) = some (.im r.d, e) := rfl
theorem retE_v (ev : NEnv → Option (RV × NEnv)) (i : Nat) (env : NEnv) : retE ev (.var i) env = match getS env i with
    | .im d => some (.rt (.dat d) env)
    | .mu ds => some (.rt (.new ds) (env.set i .un))
    | _ => none := rfl
theorem retE_nv (ev : NEnv → Option (RV × NEnv)) {e : E} (env : NEnv) (h : nv e = true) : retE ev e env = rval (ev env) := by
  unfold retE
  split
  · cases h
  · cases q : ev env with
    | none => rfl
    | some p => obtain ⟨r, e1⟩ := p; rfl
theorem evAV_v (m : Bool) (ev : NEnv → Option (RV × NEnv)) (i : Nat) (env : NEnv) : evAV m (.var i) ev env = match getS env i with
    | .im d => if m then none else some (AV.im d, env)
    | .mu _ => some (if m then AV.cell i else AV.bor i, env)
    | .pm _ => some (if m then AV.cell i else AV.bor i, env)
    | .bo _ => if m then none else some (AV.bor i, env)
    | .un => none := rfl
theorem evAV_nv (ev : NEnv → Option (RV × NEnv)) {e : E} (env : NEnv) (h : nv e = true) : evAV false e ev env = aval (ev env) := by
  unfold evAV
  split
  · cases h
  · cases q : ev env with
    | none => rfl
    | some p => obtain ⟨r, e1⟩ := p; rfl

theorem evB_cN (ev : NEnv → Option (RV × NEnv)) (env : NEnv)  : evB ev E.cN env = bval (ev env) := evB_nv ev env rfl
theorem retE_cN (ev : NEnv → Option (RV × NEnv)) (env : NEnv)  : retE ev E.cN env = rval (ev env) := retE_nv ev env rfl
theorem evAV_cN (ev : NEnv → Option (RV × NEnv)) (env : NEnv)  : evAV false E.cN ev env = aval (ev env) := evAV_nv ev env rfl
theorem evB_cB (ev : NEnv → Option (RV × NEnv)) (env : NEnv) (x0 : Bool) : evB ev (E.cB x0) env = bval (ev env) := evB_nv ev env rfl
theorem retE_cB (ev : NEnv → Option (RV × NEnv)) (env : NEnv) (x0 : Bool) : retE ev (E.cB x0) env = rval (ev env) := retE_nv ev env rfl
theorem evAV_cB (ev : NEnv → Option (RV × NEnv)) (env : NEnv) (x0 : Bool) : evAV false (E.cB x0) ev env = aval (ev env) := evAV_nv ev env rfl
theorem evB_cI (ev : NEnv → Option (RV × NEnv)) (env : NEnv) (x0 : Int) : evB ev (E.cI x0) env = bval (ev env) := evB_nv ev env rfl
theorem retE_cI (ev : NEnv → Option (RV × NEnv)) (env : NEnv) (x0 : Int) : retE ev (E.cI x0) env = rval (ev env) := retE_nv ev env rfl
theorem evAV_cI (ev : NEnv → Option (RV × NEnv)) (env : NEnv) (x0 : Int) : evAV false (E.cI x0) ev env = aval (ev env) := evAV_nv ev env rfl
theorem evB_cS (ev : NEnv → Option (RV × NEnv)) (env : NEnv) (x0 : PySem.Str) : evB ev (E.cS x0) env = bval (ev env) := evB_nv ev env rfl
theorem retE_cS (ev : NEnv → Option (RV × NEnv)) (env : NEnv) (x0 : PySem.Str) : retE ev (E.cS x0) env = rval (ev env) := retE_nv ev env rfl
theorem evAV_cS (ev : NEnv → Option (RV × NEnv)) (env : NEnv) (x0 : PySem.Str) : evAV false (E.cS x0) ev env = aval (ev env) := evAV_nv ev env rfl
theorem evB_bin (ev : NEnv → Option (RV × NEnv)) (env : NEnv) (x0 : Op) (x1 : E) (x2 : E) : evB ev (E.bin x0 x1 x2) env = bval (ev env) := evB_nv ev env rfl
theorem retE_bin (ev : NEnv → Option (RV × NEnv)) (env : NEnv) (x0 : Op) (x1 : E) (x2 : E) : retE ev (E.bin x0 x1 x2) env = rval (ev env) := retE_nv ev env rfl
theorem evAV_bin (ev : NEnv → Option (RV × NEnv)) (env : NEnv) (x0 : Op) (x1 : E) (x2 : E) : evAV false (E.bin x0 x1 x2) ev env = aval (ev env) := evAV_nv ev env rfl
theorem evB_chain (ev : NEnv → Option (RV × NEnv)) (env : NEnv) (x0 : Op) (x1 : Op) (x2 : E) (x3 : E) (x4 : E) : evB ev (E.chain x0 x1 x2 x3 x4) env = bval (ev env) := evB_nv ev env rfl
theorem retE_chain (ev : NEnv → Option (RV × NEnv)) (env : NEnv) (x0 : Op) (x1 : Op) (x2 : E) (x3 : E) (x4 : E) : retE ev (E.chain x0 x1 x2 x3 x4) env = rval (ev env) := retE_nv ev env rfl
theorem evAV_chain (ev : NEnv → Option (RV × NEnv)) (env : NEnv) (x0 : Op) (x1 : Op) (x2 : E) (x3 : E) (x4 : E) : evAV false (E.chain x0 x1 x2 x3 x4) ev env = aval (ev env) := evAV_nv ev env rfl
theorem evB_neg (ev : NEnv → Option (RV × NEnv)) (env : NEnv) (x0 : E) : evB ev (E.neg x0) env = bval (ev env) := evB_nv ev env rfl
theorem retE_neg (ev : NEnv → Option (RV × NEnv)) (env : NEnv) (x0 : E) : retE ev (E.neg x0) env = rval (ev env) := retE_nv ev env rfl
theorem evAV_neg (ev : NEnv → Option (RV × NEnv)) (env : NEnv) (x0 : E) : evAV false (E.neg x0) ev env = aval (ev env) := evAV_nv ev env rfl
theorem evB_not (ev : NEnv → Option (RV × NEnv)) (env : NEnv) (x0 : E) : evB ev (E.not x0) env = bval (ev env) := evB_nv ev env rfl
theorem retE_not (ev : NEnv → Option (RV × NEnv)) (env : NEnv) (x0 : E) : retE ev (E.not x0) env = rval (ev env) := retE_nv ev env rfl
theorem evAV_not (ev : NEnv → Option (RV × NEnv)) (env : NEnv) (x0 : E) : evAV false (E.not x0) ev env = aval (ev env) := evAV_nv ev env rfl
theorem evB_and (ev : NEnv → Option (RV × NEnv)) (env : NEnv) (x0 : E) (x1 : E) : evB ev (E.and x0 x1) env = bval (ev env) := evB_nv ev env rfl
theorem retE_and (ev : NEnv → Option (RV × NEnv)) (env : NEnv) (x0 : E) (x1 : E) : retE ev (E.and x0 x1) env = rval (ev env) := retE_nv ev env rfl
theorem evAV_and (ev : NEnv → Option (RV × NEnv)) (env : NEnv) (x0 : E) (x1 : E) : evAV false (E.and x0 x1) ev env = aval (ev env) := evAV_nv ev env rfl
theorem evB_or (ev : NEnv → Option (RV × NEnv)) (env : NEnv) (x0 : E) (x1 : E) : evB ev (E.or x0 x1) env = bval (ev env) := evB_nv ev env rfl
theorem retE_or (ev : NEnv → Option (RV × NEnv)) (env : NEnv) (x0 : E) (x1 : E) : retE ev (E.or x0 x1) env = rval (ev env) := retE_nv ev env rfl
theorem evAV_or (ev : NEnv → Option (RV × NEnv)) (env : NEnv) (x0 : E) (x1 : E) : evAV false (E.or x0 x1) ev env = aval (ev env) := evAV_nv ev env rfl
theorem evB_ite (ev : NEnv → Option (RV × NEnv)) (env : NEnv) (x0 : E) (x1 : E) (x2 : E) : evB ev (E.ite x0 x1 x2) env = bval (ev env) := evB_nv ev env rfl
theorem retE_ite (ev : NEnv → Option (RV × NEnv)) (env : NEnv) (x0 : E) (x1 : E) (x2 : E) : retE ev (E.ite x0 x1 x2) env = rval (ev env) := retE_nv ev env rfl
theorem evAV_ite (ev : NEnv → Option (RV × NEnv)) (env : NEnv) (x0 : E) (x1 : E) (x2 : E) : evAV false (E.ite x0 x1 x2) ev env = aval (ev env) := evAV_nv ev env rfl
theorem evB_tup (ev : NEnv → Option (RV × NEnv)) (env : NEnv) (x0 : Es) : evB ev (E.tup x0) env = bval (ev env) := evB_nv ev env rfl
theorem retE_tup (ev : NEnv → Option (RV × NEnv)) (env : NEnv) (x0 : Es) : retE ev (E.tup x0) env = rval (ev env) := retE_nv ev env rfl
theorem evAV_tup (ev : NEnv → Option (RV × NEnv)) (env : NEnv) (x0 : Es) : evAV false (E.tup x0) ev env = aval (ev env) := evAV_nv ev env rfl
theorem evB_lst (ev : NEnv → Option (RV × NEnv)) (env : NEnv) (x0 : Es) : evB ev (E.lst x0) env = bval (ev env) := evB_nv ev env rfl
theorem retE_lst (ev : NEnv → Option (RV × NEnv)) (env : NEnv) (x0 : Es) : retE ev (E.lst x0) env = rval (ev env) := retE_nv ev env rfl
theorem evAV_lst (ev : NEnv → Option (RV × NEnv)) (env : NEnv) (x0 : Es) : evAV false (E.lst x0) ev env = aval (ev env) := evAV_nv ev env rfl
theorem evB_sli (ev : NEnv → Option (RV × NEnv)) (env : NEnv) (x0 : E) (x1 : Oe) (x2 : Oe) : evB ev (E.sli x0 x1 x2) env = bval (ev env) := evB_nv ev env rfl
theorem retE_sli (ev : NEnv → Option (RV × NEnv)) (env : NEnv) (x0 : E) (x1 : Oe) (x2 : Oe) : retE ev (E.sli x0 x1 x2) env = rval (ev env) := retE_nv ev env rfl
theorem evAV_sli (ev : NEnv → Option (RV × NEnv)) (env : NEnv) (x0 : E) (x1 : Oe) (x2 : Oe) : evAV false (E.sli x0 x1 x2) ev env = aval (ev env) := evAV_nv ev env rfl
theorem evB_call (ev : NEnv → Option (RV × NEnv)) (env : NEnv) (x0 : Nat) (x1 : Es) : evB ev (E.call x0 x1) env = bval (ev env) := evB_nv ev env rfl
theorem retE_call (ev : NEnv → Option (RV × NEnv)) (env : NEnv) (x0 : Nat) (x1 : Es) : retE ev (E.call x0 x1) env = rval (ev env) := retE_nv ev env rfl
theorem evAV_call (ev : NEnv → Option (RV × NEnv)) (env : NEnv) (x0 : Nat) (x1 : Es) : evAV false (E.call x0 x1) ev env = aval (ev env) := evAV_nv ev env rfl
theorem evB_bi (ev : NEnv → Option (RV × NEnv)) (env : NEnv) (x0 : Bi) (x1 : Es) : evB ev (E.bi x0 x1) env = bval (ev env) := evB_nv ev env rfl
theorem retE_bi (ev : NEnv → Option (RV × NEnv)) (env : NEnv) (x0 : Bi) (x1 : Es) : retE ev (E.bi x0 x1) env = rval (ev env) := retE_nv ev env rfl
theorem evAV_bi (ev : NEnv → Option (RV × NEnv)) (env : NEnv) (x0 : Bi) (x1 : Es) : evAV false (E.bi x0 x1) ev env = aval (ev env) := evAV_nv ev env rfl
theorem evB_birng (ev : NEnv → Option (RV × NEnv)) (env : NEnv) (x0 : Bi) (x1 : It) : evB ev (E.birng x0 x1) env = bval (ev env) := evB_nv ev env rfl
theorem retE_birng (ev : NEnv → Option (RV × NEnv)) (env : NEnv) (x0 : Bi) (x1 : It) : retE ev (E.birng x0 x1) env = rval (ev env) := retE_nv ev env rfl
theorem evAV_birng (ev : NEnv → Option (RV × NEnv)) (env : NEnv) (x0 : Bi) (x1 : It) : evAV false (E.birng x0 x1) ev env = aval (ev env) := evAV_nv ev env rfl
theorem evB_pop (ev : NEnv → Option (RV × NEnv)) (env : NEnv) (x0 : Nat) : evB ev (E.pop x0) env = bval (ev env) := evB_nv ev env rfl
theorem retE_pop (ev : NEnv → Option (RV × NEnv)) (env : NEnv) (x0 : Nat) : retE ev (E.pop x0) env = rval (ev env) := retE_nv ev env rfl
theorem evAV_pop (ev : NEnv → Option (RV × NEnv)) (env : NEnv) (x0 : Nat) : evAV false (E.pop x0) ev env = aval (ev env) := evAV_nv ev env rfl
theorem evB_isi (ev : NEnv → Option (RV × NEnv)) (env : NEnv) (x0 : E) (x1 : Ty) : evB ev (E.isi x0 x1) env = bval (ev env) := evB_nv ev env rfl
theorem retE_isi (ev : NEnv → Option (RV × NEnv)) (env : NEnv) (x0 : E) (x1 : Ty) : retE ev (E.isi x0 x1) env = rval (ev env) := retE_nv ev env rfl
theorem evAV_isi (ev : NEnv → Option (RV × NEnv)) (env : NEnv) (x0 : E) (x1 : Ty) : evAV false (E.isi x0 x1) ev env = aval (ev env) := evAV_nv ev env rfl
theorem evB_comp (ev : NEnv → Option (RV × NEnv)) (env : NEnv) (x0 : E) (x1 : Tg) (x2 : It) (x3 : Oe) (x4 : List Nat) : evB ev (E.comp x0 x1 x2 x3 x4) env = bval (ev env) := evB_nv ev env rfl
theorem retE_comp (ev : NEnv → Option (RV × NEnv)) (env : NEnv) (x0 : E) (x1 : Tg) (x2 : It) (x3 : Oe) (x4 : List Nat) : retE ev (E.comp x0 x1 x2 x3 x4) env = rval (ev env) := retE_nv ev env rfl
theorem evAV_comp (ev : NEnv → Option (RV × NEnv)) (env : NEnv) (x0 : E) (x1 : Tg) (x2 : It) (x3 : Oe) (x4 : List Nat) : evAV false (E.comp x0 x1 x2 x3 x4) ev env = aval (ev env) := evAV_nv ev env rfl
theorem evB_comp2 (ev : NEnv → Option (RV × NEnv)) (env : NEnv) (x0 : E) (x1 : Tg) (x2 : It) (x3 : Oe) (x4 : Tg) (x5 : It) (x6 : Oe) (x7 : List Nat) (x8 : List Nat) : evB ev (E.comp2 x0 x1 x2 x3 x4 x5 x6 x7 x8) env = bval (ev env) := evB_nv ev env rfl
theorem retE_comp2 (ev : NEnv → Option (RV × NEnv)) (env : NEnv) (x0 : E) (x1 : Tg) (x2 : It) (x3 : Oe) (x4 : Tg) (x5 : It) (x6 : Oe) (x7 : List Nat) (x8 : List Nat) : retE ev (E.comp2 x0 x1 x2 x3 x4 x5 x6 x7 x8) env = rval (ev env) := retE_nv ev env rfl
theorem evAV_comp2 (ev : NEnv → Option (RV × NEnv)) (env : NEnv) (x0 : E) (x1 : Tg) (x2 : It) (x3 : Oe) (x4 : Tg) (x5 : It) (x6 : Oe) (x7 : List Nat) (x8 : List Nat) : evAV false (E.comp2 x0 x1 x2 x3 x4 x5 x6 x7 x8) ev env = aval (ev env) := evAV_nv ev env rfl

theorem evB_sset (ev : NEnv → Option (RV × NEnv)) (env : NEnv) (x0 : E) : evB ev (E.sset x0) env = bval (ev env) := evB_nv ev env rfl
theorem retE_sset (ev : NEnv → Option (RV × NEnv)) (env : NEnv) (x0 : E) : retE ev (E.sset x0) env = rval (ev env) := retE_nv ev env rfl
theorem evAV_sset (ev : NEnv → Option (RV × NEnv)) (env : NEnv) (x0 : E) : evAV false (E.sset x0) ev env = aval (ev env) := evAV_nv ev env rfl

/-! ints -/
theorem ixn_nat {n i : Nat} (h : i < n) : ixn n (i : Int) = some i := by
  show ixN n (i : Int) = some i
  unfold ixN
  rw [if_pos (by omega), if_pos (by omega)]
  rfl
theorem il_get {ns : List Int} {i : Nat} : (il ns)[i]? = (ns[i]?).map PyData.int := by rw [List.getElem?_map]
theorem mulOk_r {i j : Int} (h1 : -18446744073709551616 < j) (h2 : j < 18446744073709551616) : mulOk i j = true := by
  unfold mulOk
  simp only [Bool.or_eq_true, Bool.and_eq_true, decide_eq_true_eq]
  exact .inr ⟨by omega, by omega⟩
theorem mulOk_l {i j : Int} (h1 : -18446744073709551616 < i) (h2 : i < 18446744073709551616) : mulOk i j = true := by
  unfold mulOk
  simp only [Bool.or_eq_true, Bool.and_eq_true, decide_eq_true_eq]
  exact .inl ⟨by omega, by omega⟩
theorem il_map_int (cs : List Int) : (il cs).flatMap (fun d => [d]) = il cs := by
  induction cs with
  | nil => rfl
  | cons c cs ih => simp [il] at ih ⊢
def Drawn (ds : List Int) : Prop := ∀ x ∈ ds, 0 ≤ x ∧ x < 1000003
theorem Drawn.app {ds : List Int} {x : Int} (h : Drawn ds) (h1 : 0 ≤ x) (h2 : x < 1000003) : Drawn (ds ++ [x]) := fun y hy => by
  rcases List.mem_append.mp hy with q | q
  · exact h y q
  · rcases List.mem_singleton.mp q with rfl
    exact ⟨h1, h2⟩
end NG

/-! NG17: the draws. -/
namespace NG
open PySem L2
def drawsB1 : Ss := (.cons (.asg (.name 2) (.comp (.bi .int (.cons (.var 3) .nil)) (.name 3) (.e (.var 0)) .none [3])) (.cons (.iff (.bin .eq (.bi .len (.cons (.var 2) .nil)) (.cI 0)) (.cons (.app 2 (.cI 0)) .nil) .nil) (.cons (.asg (.name 4) (.bi .list (.cons (.var 2) .nil))) (.cons (.asg (.name 5) (.lst .nil)) (.cons (.for (.name 6) (.r1 (.var 1)) (.cons (.asg (.name 7) (.bin .mod (.var 6) (.bi .len (.cons (.var 2) .nil)))) (.cons (.iff (.and (.bin .ge (.bin .idx (.var 2) (.var 7)) (.bin .pow (.cI 10) (.cI 18))) (.bin .gt (.bin .idx (.var 4) (.var 7)) (.cI 0))) (.cons (.app 5 (.bin .mod (.bi .int (.cons (.bin .idx (.var 4) (.var 7)) .nil)) (.cI 1000))) (.cons (.seti 4 (.var 7) (.bin .fdiv (.bin .idx (.var 4) (.var 7)) (.cI 1000))) .nil)) (.cons (.asg (.name 8) (.bin .mod (.bi .int (.cons (.bin .add (.bin .add (.bin .mul (.bin .idx (.var 2) (.var 7)) (.cI 48271)) (.bin .mul (.var 6) (.cI 69621))) (.cI 11)) .nil)) (.cI 2147483647))) (.cons (.app 5 (.bin .mod (.bi .int (.cons (.bin .add (.bin .add (.bin .mul (.var 8) (.var 8)) (.bin .mul (.cI 3) (.var 8))) (.var 6)) .nil)) (.cI 1000003))) .nil))) .nil))) (.cons (.rev 5) (.cons (.ret (.var 5)) .nil)))))))
def drawsD1 : Df := ⟨9, [false, false], drawsB1⟩
def turnB1 : Ss := (.cons (.asg (.name 7) (.bin .mod (.var 6) (.bi .len (.cons (.var 2) .nil)))) (.cons (.iff (.and (.bin .ge (.bin .idx (.var 2) (.var 7)) (.bin .pow (.cI 10) (.cI 18))) (.bin .gt (.bin .idx (.var 4) (.var 7)) (.cI 0))) (.cons (.app 5 (.bin .mod (.bi .int (.cons (.bin .idx (.var 4) (.var 7)) .nil)) (.cI 1000))) (.cons (.seti 4 (.var 7) (.bin .fdiv (.bin .idx (.var 4) (.var 7)) (.cI 1000))) .nil)) (.cons (.asg (.name 8) (.bin .mod (.bi .int (.cons (.bin .add (.bin .add (.bin .mul (.bin .idx (.var 2) (.var 7)) (.cI 48271)) (.bin .mul (.var 6) (.cI 69621))) (.cI 11)) .nil)) (.cI 2147483647))) (.cons (.app 5 (.bin .mod (.bi .int (.cons (.bin .add (.bin .add (.bin .mul (.var 8) (.var 8)) (.bin .mul (.cI 3) (.var 8))) (.var 6)) .nil)) (.cI 1000003))) .nil))) .nil))
theorem okSt_cases {s : Sl} (h : okSt s = true) : s = .un ∨ (∃ d, s = .im d) ∨ ∃ ds, s = .mu ds := by
  cases s with
  | un => exact .inl rfl
  | im d => exact .inr (.inl ⟨d, rfl⟩)
  | mu ds => exact .inr (.inr ⟨ds, rfl⟩)
  | pm ds => cases h
  | bo ds => cases h
theorem fmod_nn {a b : Int} (h : 0 < b) : 0 ≤ a.fmod b := Int.fmod_nonneg_of_pos a h
theorem fmod_lt {a b : Int} (h : 0 < b) : a.fmod b < b := Int.fmod_lt_of_pos a h
theorem turn1 {cl : CL} {wf : Nat} {s : PyData} {m k : Int} {cs rs acc : List Int} {x3 x7 x8 : Sl} (h7 : okSt x7 = true) (h8 : okSt x8 = true) (hl : rs.length = cs.length) (hc : 0 < cs.length) (hk : 0 ≤ k) (hk2 : k < 16777216) (ha : (acc.length : Int) ≤ k) (hd : Drawn acc) :
    ∃ rs' acc' x7' x8', evalSs cl wf turnB1 [.im s, .im (.int m), .mu (il cs), x3, .mu (il rs), .mu (il acc), .im (.int k), x7, x8] = some (.nx [.im s, .im (.int m), .mu (il cs), x3, .mu (il rs'), .mu (il acc'), .im (.int k), x7', x8']) ∧ okSt x7' = true ∧ okSt x8' = true ∧ rs'.length = cs.length ∧ acc'.length = acc.length + 1 ∧ Drawn acc' := by
  have hcz : (cs.length : Int) ≠ 0 := by omega
  have hne : cs ≠ [] := fun e => by subst e; simp at hc
  obtain ⟨a, hat, hal⟩ : ∃ a : Nat, k.fmod (cs.length : Int) = (a : Int) ∧ a < cs.length := by
    have h1 := fmod_nn (a := k) (b := (cs.length : Int)) (by omega)
    have h2 := fmod_lt (a := k) (b := (cs.length : Int)) (by omega)
    exact ⟨(k.fmod (cs.length : Int)).toNat, by omega, by omega⟩
  have hal2 : a < rs.length := by omega
  have hacc : acc.length < 16777216 := by omega
  have i1 : ixn (il cs).length (a : Int) = some a := ixn_nat (by rw [List.length_map]; exact hal)
  have i2 : ixn (il rs).length (a : Int) = some a := ixn_nat (by rw [List.length_map]; exact hal2)
  have j1 : ixn cs.length (a : Int) = some a := ixn_nat hal
  have j2 : ixn rs.length (a : Int) = some a := ixn_nat hal2
  have g1 : (il cs)[a]? = some (.int cs[a]) := by rw [il_get, List.getElem?_eq_getElem hal]; rfl
  have g2 : (il rs)[a]? = some (.int rs[a]) := by rw [il_get, List.getElem?_eq_getElem hal2]; rfl
  by_cases c1 : (1000000000000000000 : Int) ≤ cs[a] ∧ 0 < rs[a]
  · refine ⟨rs.set a (rs[a].fdiv 1000), acc ++ [rs[a].fmod 1000], .im (.int a), x8, ?_, rfl, h8, by rw [List.length_set]; exact hl, by simp, hd.app (fmod_nn (by decide)) (Int.lt_trans (fmod_lt (by decide)) (by decide))⟩
    have c1' := c1.1
    simp [evalSs, evalS.eq_1, evalS.eq_2, evalS.eq_3, evalS.eq_4, evalS.eq_5, evalS.eq_6, evalS.eq_7, evalS.eq_8, evalS.eq_9, evalS.eq_12, evalS.eq_13, evalS.eq_14, evalE.eq_1, evalE.eq_2, evalE.eq_3, evalE.eq_4, evalE.eq_5, evalE.eq_6, evalE.eq_7, evalE.eq_8, evalE.eq_9, evalE.eq_10, evalE.eq_11, evalE.eq_12, evalE.eq_13, evalE.eq_14, evalE.eq_15, evalE.eq_17, evalE.eq_18, evalE.eq_19, evalE.eq_20, evalE.eq_21, evalE.eq_22, evalE.eq_25, evalEs, evalO, evalC, evalIt, evI, evB_v, evB_cN, evB_cB, evB_cI, evB_cS, evB_bin, evB_chain, evB_neg, evB_not, evB_and, evB_or, evB_ite, evB_tup, evB_lst, evB_sli, evB_call, evB_bi, evB_birng, evB_pop, evB_isi, evB_comp, evB_comp2, evB_sset, bval_s, evVar, getS, RV.d, resB, slD, bi1, lenD, opB, op2, tst, andE, orE, asgN, asgs, asgR_d, asgR_n, asgT_n, asgT_t, asgR_t, nxO_s, seqO_nx, seqO_rt, seqO_bk, seqO_ct, okSt_un, okSt_im, okSt_mu, cellD_un, cellD_im, cellD_mu, cellD_pm, cellD_bo, setAt, appAt, revAt, augAt, augD, retE_v, retE_cN, retE_cB, retE_cI, retE_cS, retE_bin, retE_chain, retE_neg, retE_not, retE_and, retE_or, retE_ite, retE_tup, retE_lst, retE_sli, retE_call, retE_bi, retE_birng, retE_pop, retE_isi, retE_comp, retE_comp2, retE_sset, rval_s, shal_int, eqv_int, turnB1, h7, hcz, hne, hat, i1, i2, j1, j2, g1, g2, c1, hacc, il, List.map_set]
  · have m1 : mulOk cs[a] 48271 = true := mulOk_r (by decide) (by decide)
    have m2 : mulOk k 69621 = true := mulOk_r (by decide) (by decide)
    obtain ⟨o, ho⟩ : ∃ o, (cs[a] * 48271 + k * 69621 + 11).fmod 2147483647 = o := ⟨_, rfl⟩
    have o1 : 0 ≤ o := by rw [← ho]; exact fmod_nn (by decide)
    have o2 : o < 2147483647 := by rw [← ho]; exact fmod_lt (by decide)
    have m3 : mulOk o o = true := mulOk_r (by omega) (by omega)
    have m4 : mulOk 3 o = true := mulOk_r (by omega) (by omega)
    refine ⟨rs, acc ++ [(o * o + 3 * o + k).fmod 1000003], .im (.int a), .im (.int o), ?_, rfl, rfl, hl, by simp, hd.app (fmod_nn (by decide)) (fmod_lt (by decide))⟩
    by_cases c2 : (1000000000000000000 : Int) ≤ cs[a]
    · have c3 : ¬ 0 < rs[a] := fun z => c1 ⟨c2, z⟩
      simp [evalSs, evalS.eq_1, evalS.eq_2, evalS.eq_3, evalS.eq_4, evalS.eq_5, evalS.eq_6, evalS.eq_7, evalS.eq_8, evalS.eq_9, evalS.eq_12, evalS.eq_13, evalS.eq_14, evalE.eq_1, evalE.eq_2, evalE.eq_3, evalE.eq_4, evalE.eq_5, evalE.eq_6, evalE.eq_7, evalE.eq_8, evalE.eq_9, evalE.eq_10, evalE.eq_11, evalE.eq_12, evalE.eq_13, evalE.eq_14, evalE.eq_15, evalE.eq_17, evalE.eq_18, evalE.eq_19, evalE.eq_20, evalE.eq_21, evalE.eq_22, evalE.eq_25, evalEs, evalO, evalC, evalIt, evI, evB_v, evB_cN, evB_cB, evB_cI, evB_cS, evB_bin, evB_chain, evB_neg, evB_not, evB_and, evB_or, evB_ite, evB_tup, evB_lst, evB_sli, evB_call, evB_bi, evB_birng, evB_pop, evB_isi, evB_comp, evB_comp2, evB_sset, bval_s, evVar, getS, RV.d, resB, slD, bi1, lenD, opB, op2, tst, andE, orE, asgN, asgs, asgR_d, asgR_n, asgT_n, asgT_t, asgR_t, nxO_s, seqO_nx, seqO_rt, seqO_bk, seqO_ct, okSt_un, okSt_im, okSt_mu, cellD_un, cellD_im, cellD_mu, cellD_pm, cellD_bo, setAt, appAt, revAt, augAt, augD, retE_v, retE_cN, retE_cB, retE_cI, retE_cS, retE_bin, retE_chain, retE_neg, retE_not, retE_and, retE_or, retE_ite, retE_tup, retE_lst, retE_sli, retE_call, retE_bi, retE_birng, retE_pop, retE_isi, retE_comp, retE_comp2, retE_sset, rval_s, shal_int, eqv_int, turnB1, h7, h8, hcz, hne, hat, i1, i2, j1, j2, g1, g2, c2, c3, hacc, il, m1, m2, m3, m4, ho]
    · simp [evalSs, evalS.eq_1, evalS.eq_2, evalS.eq_3, evalS.eq_4, evalS.eq_5, evalS.eq_6, evalS.eq_7, evalS.eq_8, evalS.eq_9, evalS.eq_12, evalS.eq_13, evalS.eq_14, evalE.eq_1, evalE.eq_2, evalE.eq_3, evalE.eq_4, evalE.eq_5, evalE.eq_6, evalE.eq_7, evalE.eq_8, evalE.eq_9, evalE.eq_10, evalE.eq_11, evalE.eq_12, evalE.eq_13, evalE.eq_14, evalE.eq_15, evalE.eq_17, evalE.eq_18, evalE.eq_19, evalE.eq_20, evalE.eq_21, evalE.eq_22, evalE.eq_25, evalEs, evalO, evalC, evalIt, evI, evB_v, evB_cN, evB_cB, evB_cI, evB_cS, evB_bin, evB_chain, evB_neg, evB_not, evB_and, evB_or, evB_ite, evB_tup, evB_lst, evB_sli, evB_call, evB_bi, evB_birng, evB_pop, evB_isi, evB_comp, evB_comp2, evB_sset, bval_s, evVar, getS, RV.d, resB, slD, bi1, lenD, opB, op2, tst, andE, orE, asgN, asgs, asgR_d, asgR_n, asgT_n, asgT_t, asgR_t, nxO_s, seqO_nx, seqO_rt, seqO_bk, seqO_ct, okSt_un, okSt_im, okSt_mu, cellD_un, cellD_im, cellD_mu, cellD_pm, cellD_bo, setAt, appAt, revAt, augAt, augD, retE_v, retE_cN, retE_cB, retE_cI, retE_cS, retE_bin, retE_chain, retE_neg, retE_not, retE_and, retE_or, retE_ite, retE_tup, retE_lst, retE_sli, retE_call, retE_bi, retE_birng, retE_pop, retE_isi, retE_comp, retE_comp2, retE_sset, rval_s, shal_int, eqv_int, turnB1, h7, h8, hcz, hne, hat, i1, i2, j1, j2, g1, g2, c2, hacc, il, m1, m2, m3, m4, ho]
theorem draws_spec1 {T : Tab} {wf k id : Nat} (h : T id = some drawsD1) (ns : List Int) (m : Nat) (hl : ns.length ≤ 63) (hm : m < 1000000) : ∃ ds, callAt T wf (k + 1) id [.im (.list (il ns)), .im (.int m)] = some (.new (il ds), []) ∧ ds.length = m ∧ Drawn ds := by
  -- the cells
  have hc := comp1 (cl := clAt T wf k) (elt := .bi .int (.cons (.var 3) .nil)) (it := .e (.var 0)) (c := .none) (v := 3) (env := [.im (.list (il ns)), .im (.int m), .un, .un, .un, .un, .un, .un, .un]) (fun d => [d]) (ds := il ns) (b := none) (e1 := [.im (.list (il ns)), .im (.int m), .un, .un, .un, .un, .un, .un, .un]) (by simp [evalSs, evalS.eq_1, evalS.eq_2, evalS.eq_3, evalS.eq_4, evalS.eq_5, evalS.eq_6, evalS.eq_7, evalS.eq_8, evalS.eq_9, evalS.eq_12, evalS.eq_13, evalS.eq_14, evalE.eq_1, evalE.eq_2, evalE.eq_3, evalE.eq_4, evalE.eq_5, evalE.eq_6, evalE.eq_7, evalE.eq_8, evalE.eq_9, evalE.eq_10, evalE.eq_11, evalE.eq_12, evalE.eq_13, evalE.eq_14, evalE.eq_15, evalE.eq_17, evalE.eq_18, evalE.eq_19, evalE.eq_20, evalE.eq_21, evalE.eq_22, evalE.eq_25, evalEs, evalO, evalC, evalIt, evI, evB_v, evB_cN, evB_cB, evB_cI, evB_cS, evB_bin, evB_chain, evB_neg, evB_not, evB_and, evB_or, evB_ite, evB_tup, evB_lst, evB_sli, evB_call, evB_bi, evB_birng, evB_pop, evB_isi, evB_comp, evB_comp2, evB_sset, bval_s, evVar, getS, RV.d, resB, slD, bi1, lenD, opB, op2, tst, andE, orE, asgN, asgs, asgR_d, asgR_n, asgT_n, asgT_t, asgR_t, nxO_s, seqO_nx, seqO_rt, seqO_bk, seqO_ct, okSt_un, okSt_im, okSt_mu, cellD_un, cellD_im, cellD_mu, cellD_pm, cellD_bo, setAt, appAt, revAt, augAt, augD, retE_v, retE_cN, retE_cB, retE_cI, retE_cS, retE_bin, retE_chain, retE_neg, retE_not, retE_and, retE_or, retE_ite, retE_tup, retE_lst, retE_sli, retE_call, retE_bi, retE_birng, retE_pop, retE_isi, retE_comp, retE_comp2, retE_sset, rval_s, shal_int, eqv_int]) (fun z => nomatch z) (by simp) rfl (fun d hd => by
    obtain ⟨z, _, rfl⟩ := List.mem_map.mp hd
    exact .inl ⟨.dat (.int z), by simp [lockE, evalSs, evalS.eq_1, evalS.eq_2, evalS.eq_3, evalS.eq_4, evalS.eq_5, evalS.eq_6, evalS.eq_7, evalS.eq_8, evalS.eq_9, evalS.eq_12, evalS.eq_13, evalS.eq_14, evalE.eq_1, evalE.eq_2, evalE.eq_3, evalE.eq_4, evalE.eq_5, evalE.eq_6, evalE.eq_7, evalE.eq_8, evalE.eq_9, evalE.eq_10, evalE.eq_11, evalE.eq_12, evalE.eq_13, evalE.eq_14, evalE.eq_15, evalE.eq_17, evalE.eq_18, evalE.eq_19, evalE.eq_20, evalE.eq_21, evalE.eq_22, evalE.eq_25, evalEs, evalO, evalC, evalIt, evI, evB_v, evB_cN, evB_cB, evB_cI, evB_cS, evB_bin, evB_chain, evB_neg, evB_not, evB_and, evB_or, evB_ite, evB_tup, evB_lst, evB_sli, evB_call, evB_bi, evB_birng, evB_pop, evB_isi, evB_comp, evB_comp2, evB_sset, bval_s, evVar, getS, RV.d, resB, slD, bi1, lenD, opB, op2, tst, andE, orE, asgN, asgs, asgR_d, asgR_n, asgT_n, asgT_t, asgR_t, nxO_s, seqO_nx, seqO_rt, seqO_bk, seqO_ct, okSt_un, okSt_im, okSt_mu, cellD_un, cellD_im, cellD_mu, cellD_pm, cellD_bo, setAt, appAt, revAt, augAt, augD, retE_v, retE_cN, retE_cB, retE_cI, retE_cS, retE_bin, retE_chain, retE_neg, retE_not, retE_and, retE_or, retE_ite, retE_tup, retE_lst, retE_sli, retE_call, retE_bi, retE_birng, retE_pop, retE_isi, retE_comp, retE_comp2, retE_sset, rval_s, shal_int, eqv_int], by simp [lockE, evalSs, evalS.eq_1, evalS.eq_2, evalS.eq_3, evalS.eq_4, evalS.eq_5, evalS.eq_6, evalS.eq_7, evalS.eq_8, evalS.eq_9, evalS.eq_12, evalS.eq_13, evalS.eq_14, evalE.eq_1, evalE.eq_2, evalE.eq_3, evalE.eq_4, evalE.eq_5, evalE.eq_6, evalE.eq_7, evalE.eq_8, evalE.eq_9, evalE.eq_10, evalE.eq_11, evalE.eq_12, evalE.eq_13, evalE.eq_14, evalE.eq_15, evalE.eq_17, evalE.eq_18, evalE.eq_19, evalE.eq_20, evalE.eq_21, evalE.eq_22, evalE.eq_25, evalEs, evalO, evalC, evalIt, evI, evB_v, evB_cN, evB_cB, evB_cI, evB_cS, evB_bin, evB_chain, evB_neg, evB_not, evB_and, evB_or, evB_ite, evB_tup, evB_lst, evB_sli, evB_call, evB_bi, evB_birng, evB_pop, evB_isi, evB_comp, evB_comp2, evB_sset, bval_s, evVar, getS, RV.d, resB, slD, bi1, lenD, opB, op2, tst, andE, orE, asgN, asgs, asgR_d, asgR_n, asgT_n, asgT_t, asgR_t, nxO_s, seqO_nx, seqO_rt, seqO_bk, seqO_ct, okSt_un, okSt_im, okSt_mu, cellD_un, cellD_im, cellD_mu, cellD_pm, cellD_bo, setAt, appAt, revAt, augAt, augD, retE_v, retE_cN, retE_cB, retE_cI, retE_cS, retE_bin, retE_chain, retE_neg, retE_not, retE_and, retE_or, retE_ite, retE_tup, retE_lst, retE_sli, retE_call, retE_bi, retE_birng, retE_pop, retE_isi, retE_comp, retE_comp2, retE_sset, rval_s, shal_int, eqv_int], rfl⟩) (by rw [il_map_int, List.length_map]; omega)
  rw [il_map_int] at hc
  -- the rest, from cells that are not empty
  have main : ∀ cs : List Int, 0 < cs.length → cs.length ≤ 64 → ∃ ds e, evalSs (clAt T wf k) wf (.cons (.asg (.name 4) (.bi .list (.cons (.var 2) .nil))) (.cons (.asg (.name 5) (.lst .nil)) (.cons (.for (.name 6) (.r1 (.var 1)) turnB1) (.cons (.rev 5) (.cons (.ret (.var 5)) .nil))))) [.im (.list (il ns)), .im (.int m), .mu (il cs), .un, .un, .un, .un, .un, .un] = some (.rt (.new (il ds)) e) ∧ ds.length = m ∧ Drawn ds := fun cs hcs hcl => by
    have hit : evalIt (clAt T wf k) (.r1 (.var 1)) [.im (.list (il ns)), .im (.int m), .mu (il cs), .un, .mu (il cs), .mu [], .un, .un, .un] = some (rng1 m, none, [.im (.list (il ns)), .im (.int m), .mu (il cs), .un, .mu (il cs), .mu [], .un, .un, .un]) := by
      have : bnd (m : Int) = true := by unfold bnd; simp only [Bool.and_eq_true, decide_eq_true_eq]; omega
      simp [evalSs, evalS.eq_1, evalS.eq_2, evalS.eq_3, evalS.eq_4, evalS.eq_5, evalS.eq_6, evalS.eq_7, evalS.eq_8, evalS.eq_9, evalS.eq_12, evalS.eq_13, evalS.eq_14, evalE.eq_1, evalE.eq_2, evalE.eq_3, evalE.eq_4, evalE.eq_5, evalE.eq_6, evalE.eq_7, evalE.eq_8, evalE.eq_9, evalE.eq_10, evalE.eq_11, evalE.eq_12, evalE.eq_13, evalE.eq_14, evalE.eq_15, evalE.eq_17, evalE.eq_18, evalE.eq_19, evalE.eq_20, evalE.eq_21, evalE.eq_22, evalE.eq_25, evalEs, evalO, evalC, evalIt, evI, evB_v, evB_cN, evB_cB, evB_cI, evB_cS, evB_bin, evB_chain, evB_neg, evB_not, evB_and, evB_or, evB_ite, evB_tup, evB_lst, evB_sli, evB_call, evB_bi, evB_birng, evB_pop, evB_isi, evB_comp, evB_comp2, evB_sset, bval_s, evVar, getS, RV.d, resB, slD, bi1, lenD, opB, op2, tst, andE, orE, asgN, asgs, asgR_d, asgR_n, asgT_n, asgT_t, asgR_t, nxO_s, seqO_nx, seqO_rt, seqO_bk, seqO_ct, okSt_un, okSt_im, okSt_mu, cellD_un, cellD_im, cellD_mu, cellD_pm, cellD_bo, setAt, appAt, revAt, augAt, augD, retE_v, retE_cN, retE_cB, retE_cI, retE_cS, retE_bin, retE_chain, retE_neg, retE_not, retE_and, retE_or, retE_ite, retE_tup, retE_lst, retE_sli, retE_call, retE_bi, retE_birng, retE_pop, retE_isi, retE_comp, retE_comp2, retE_sset, rval_s, shal_int, eqv_int, this]
    obtain ⟨e', h1, x6, x7, x8, rs, acc, rfl, _, _, _, _, hal, had⟩ := for_run (cl := clAt T wf k) (wf := wf) (tg := .name 6) (body := turnB1) (fun i e => ∃ x6 x7 x8 rs acc, e = [.im (.list (il ns)), .im (.int m), .mu (il cs), .un, .mu (il rs), .mu (il acc), x6, x7, x8] ∧ okSt x6 = true ∧ okSt x7 = true ∧ okSt x8 = true ∧ rs.length = cs.length ∧ acc.length = i ∧ Drawn acc) hit ⟨.un, .un, .un, cs, [], rfl, rfl, rfl, rfl, rfl, rfl, fun x hx => by cases hx⟩ fun i d e hd ⟨x6, x7, x8, rs, acc, he, o6, o7, o8, hr, ha, hd2⟩ => by
      subst he
      obtain ⟨hi, rfl⟩ := rng_get hd
      refine ⟨[.im (.list (il ns)), .im (.int m), .mu (il cs), .un, .mu (il rs), .mu (il acc), .im (.int i), x7, x8], by simp [evalSs, evalS.eq_1, evalS.eq_2, evalS.eq_3, evalS.eq_4, evalS.eq_5, evalS.eq_6, evalS.eq_7, evalS.eq_8, evalS.eq_9, evalS.eq_12, evalS.eq_13, evalS.eq_14, evalE.eq_1, evalE.eq_2, evalE.eq_3, evalE.eq_4, evalE.eq_5, evalE.eq_6, evalE.eq_7, evalE.eq_8, evalE.eq_9, evalE.eq_10, evalE.eq_11, evalE.eq_12, evalE.eq_13, evalE.eq_14, evalE.eq_15, evalE.eq_17, evalE.eq_18, evalE.eq_19, evalE.eq_20, evalE.eq_21, evalE.eq_22, evalE.eq_25, evalEs, evalO, evalC, evalIt, evI, evB_v, evB_cN, evB_cB, evB_cI, evB_cS, evB_bin, evB_chain, evB_neg, evB_not, evB_and, evB_or, evB_ite, evB_tup, evB_lst, evB_sli, evB_call, evB_bi, evB_birng, evB_pop, evB_isi, evB_comp, evB_comp2, evB_sset, bval_s, evVar, getS, RV.d, resB, slD, bi1, lenD, opB, op2, tst, andE, orE, asgN, asgs, asgR_d, asgR_n, asgT_n, asgT_t, asgR_t, nxO_s, seqO_nx, seqO_rt, seqO_bk, seqO_ct, okSt_un, okSt_im, okSt_mu, cellD_un, cellD_im, cellD_mu, cellD_pm, cellD_bo, setAt, appAt, revAt, augAt, augD, retE_v, retE_cN, retE_cB, retE_cI, retE_cS, retE_bin, retE_chain, retE_neg, retE_not, retE_and, retE_or, retE_ite, retE_tup, retE_lst, retE_sli, retE_call, retE_bi, retE_birng, retE_pop, retE_isi, retE_comp, retE_comp2, retE_sset, rval_s, shal_int, eqv_int, o6], ?_⟩
      obtain ⟨rs', acc', x7', x8', q1, q2, q3, q4, q5, q6⟩ := turn1 (cl := clAt T wf k) (wf := wf) (s := .list (il ns)) (m := m) (k := i) (cs := cs) (rs := rs) (acc := acc) (x3 := .un) o7 o8 hr hcs (by omega) (by omega) (by omega) hd2
      exact ⟨_, .inl q1, .im (.int i), x7', x8', rs', acc', rfl, rfl, q2, q3, q4, by omega, q6⟩
    refine ⟨acc.reverse, [.im (.list (il ns)), .im (.int m), .mu (il cs), .un, .mu (il rs), .un, x6, x7, x8], ?_, by rw [List.length_reverse, hal]; simp [rng1], fun x hx => had x (List.mem_reverse.mp hx)⟩
    have h1 : evalS (clAt T wf k) wf (.for (.name 6) (.r1 (.var 1)) turnB1) [.im (.list (il ns)), .im (.int m), .mu (il cs), .un, .mu (il cs), .mu [], .un, .un, .un] = some (.nx [.im (.list (il ns)), .im (.int m), .mu (il cs), .un, .mu (il rs), .mu (il acc), x6, x7, x8]) := h1
    rw [ss_cons_nx (e := [.im (.list (il ns)), .im (.int m), .mu (il cs), .un, .mu (il cs), .un, .un, .un, .un]) (by simp [evalSs, evalS.eq_1, evalS.eq_2, evalS.eq_3, evalS.eq_4, evalS.eq_5, evalS.eq_6, evalS.eq_7, evalS.eq_8, evalS.eq_9, evalS.eq_12, evalS.eq_13, evalS.eq_14, evalE.eq_1, evalE.eq_2, evalE.eq_3, evalE.eq_4, evalE.eq_5, evalE.eq_6, evalE.eq_7, evalE.eq_8, evalE.eq_9, evalE.eq_10, evalE.eq_11, evalE.eq_12, evalE.eq_13, evalE.eq_14, evalE.eq_15, evalE.eq_17, evalE.eq_18, evalE.eq_19, evalE.eq_20, evalE.eq_21, evalE.eq_22, evalE.eq_25, evalEs, evalO, evalC, evalIt, evI, evB_v, evB_cN, evB_cB, evB_cI, evB_cS, evB_bin, evB_chain, evB_neg, evB_not, evB_and, evB_or, evB_ite, evB_tup, evB_lst, evB_sli, evB_call, evB_bi, evB_birng, evB_pop, evB_isi, evB_comp, evB_comp2, evB_sset, bval_s, evVar, getS, RV.d, resB, slD, bi1, lenD, opB, op2, tst, andE, orE, asgN, asgs, asgR_d, asgR_n, asgT_n, asgT_t, asgR_t, nxO_s, seqO_nx, seqO_rt, seqO_bk, seqO_ct, okSt_un, okSt_im, okSt_mu, cellD_un, cellD_im, cellD_mu, cellD_pm, cellD_bo, setAt, appAt, revAt, augAt, augD, retE_v, retE_cN, retE_cB, retE_cI, retE_cS, retE_bin, retE_chain, retE_neg, retE_not, retE_and, retE_or, retE_ite, retE_tup, retE_lst, retE_sli, retE_call, retE_bi, retE_birng, retE_pop, retE_isi, retE_comp, retE_comp2, retE_sset, rval_s, shal_int, eqv_int, seqOf]), ss_cons_nx (e := [.im (.list (il ns)), .im (.int m), .mu (il cs), .un, .mu (il cs), .mu [], .un, .un, .un]) (by simp [evalSs, evalS.eq_1, evalS.eq_2, evalS.eq_3, evalS.eq_4, evalS.eq_5, evalS.eq_6, evalS.eq_7, evalS.eq_8, evalS.eq_9, evalS.eq_12, evalS.eq_13, evalS.eq_14, evalE.eq_1, evalE.eq_2, evalE.eq_3, evalE.eq_4, evalE.eq_5, evalE.eq_6, evalE.eq_7, evalE.eq_8, evalE.eq_9, evalE.eq_10, evalE.eq_11, evalE.eq_12, evalE.eq_13, evalE.eq_14, evalE.eq_15, evalE.eq_17, evalE.eq_18, evalE.eq_19, evalE.eq_20, evalE.eq_21, evalE.eq_22, evalE.eq_25, evalEs, evalO, evalC, evalIt, evI, evB_v, evB_cN, evB_cB, evB_cI, evB_cS, evB_bin, evB_chain, evB_neg, evB_not, evB_and, evB_or, evB_ite, evB_tup, evB_lst, evB_sli, evB_call, evB_bi, evB_birng, evB_pop, evB_isi, evB_comp, evB_comp2, evB_sset, bval_s, evVar, getS, RV.d, resB, slD, bi1, lenD, opB, op2, tst, andE, orE, asgN, asgs, asgR_d, asgR_n, asgT_n, asgT_t, asgR_t, nxO_s, seqO_nx, seqO_rt, seqO_bk, seqO_ct, okSt_un, okSt_im, okSt_mu, cellD_un, cellD_im, cellD_mu, cellD_pm, cellD_bo, setAt, appAt, revAt, augAt, augD, retE_v, retE_cN, retE_cB, retE_cI, retE_cS, retE_bin, retE_chain, retE_neg, retE_not, retE_and, retE_or, retE_ite, retE_tup, retE_lst, retE_sli, retE_call, retE_bi, retE_birng, retE_pop, retE_isi, retE_comp, retE_comp2, retE_sset, rval_s, shal_int, eqv_int]), ss_cons_nx h1]
    simp [evalSs, evalS.eq_1, evalS.eq_2, evalS.eq_3, evalS.eq_4, evalS.eq_5, evalS.eq_6, evalS.eq_7, evalS.eq_8, evalS.eq_9, evalS.eq_12, evalS.eq_13, evalS.eq_14, evalE.eq_1, evalE.eq_2, evalE.eq_3, evalE.eq_4, evalE.eq_5, evalE.eq_6, evalE.eq_7, evalE.eq_8, evalE.eq_9, evalE.eq_10, evalE.eq_11, evalE.eq_12, evalE.eq_13, evalE.eq_14, evalE.eq_15, evalE.eq_17, evalE.eq_18, evalE.eq_19, evalE.eq_20, evalE.eq_21, evalE.eq_22, evalE.eq_25, evalEs, evalO, evalC, evalIt, evI, evB_v, evB_cN, evB_cB, evB_cI, evB_cS, evB_bin, evB_chain, evB_neg, evB_not, evB_and, evB_or, evB_ite, evB_tup, evB_lst, evB_sli, evB_call, evB_bi, evB_birng, evB_pop, evB_isi, evB_comp, evB_comp2, evB_sset, bval_s, evVar, getS, RV.d, resB, slD, bi1, lenD, opB, op2, tst, andE, orE, asgN, asgs, asgR_d, asgR_n, asgT_n, asgT_t, asgR_t, nxO_s, seqO_nx, seqO_rt, seqO_bk, seqO_ct, okSt_un, okSt_im, okSt_mu, cellD_un, cellD_im, cellD_mu, cellD_pm, cellD_bo, setAt, appAt, revAt, augAt, augD, retE_v, retE_cN, retE_cB, retE_cI, retE_cS, retE_bin, retE_chain, retE_neg, retE_not, retE_and, retE_or, retE_ite, retE_tup, retE_lst, retE_sli, retE_call, retE_bi, retE_birng, retE_pop, retE_isi, retE_comp, retE_comp2, retE_sset, rval_s, shal_int, eqv_int, il]
  have h2 : ∃ cs : List Int, 0 < cs.length ∧ cs.length ≤ 64 ∧ evalS (clAt T wf k) wf (.iff (.bin .eq (.bi .len (.cons (.var 2) .nil)) (.cI 0)) (.cons (.app 2 (.cI 0)) .nil) .nil) [.im (.list (il ns)), .im (.int m), .mu (il ns), .un, .un, .un, .un, .un, .un] = some (.nx [.im (.list (il ns)), .im (.int m), .mu (il cs), .un, .un, .un, .un, .un, .un]) := by
    by_cases hn : ns = []
    · subst hn
      exact ⟨[0], by decide, by decide, by simp [evalSs, evalS.eq_1, evalS.eq_2, evalS.eq_3, evalS.eq_4, evalS.eq_5, evalS.eq_6, evalS.eq_7, evalS.eq_8, evalS.eq_9, evalS.eq_12, evalS.eq_13, evalS.eq_14, evalE.eq_1, evalE.eq_2, evalE.eq_3, evalE.eq_4, evalE.eq_5, evalE.eq_6, evalE.eq_7, evalE.eq_8, evalE.eq_9, evalE.eq_10, evalE.eq_11, evalE.eq_12, evalE.eq_13, evalE.eq_14, evalE.eq_15, evalE.eq_17, evalE.eq_18, evalE.eq_19, evalE.eq_20, evalE.eq_21, evalE.eq_22, evalE.eq_25, evalEs, evalO, evalC, evalIt, evI, evB_v, evB_cN, evB_cB, evB_cI, evB_cS, evB_bin, evB_chain, evB_neg, evB_not, evB_and, evB_or, evB_ite, evB_tup, evB_lst, evB_sli, evB_call, evB_bi, evB_birng, evB_pop, evB_isi, evB_comp, evB_comp2, evB_sset, bval_s, evVar, getS, RV.d, resB, slD, bi1, lenD, opB, op2, tst, andE, orE, asgN, asgs, asgR_d, asgR_n, asgT_n, asgT_t, asgR_t, nxO_s, seqO_nx, seqO_rt, seqO_bk, seqO_ct, okSt_un, okSt_im, okSt_mu, cellD_un, cellD_im, cellD_mu, cellD_pm, cellD_bo, setAt, appAt, revAt, augAt, augD, retE_v, retE_cN, retE_cB, retE_cI, retE_cS, retE_bin, retE_chain, retE_neg, retE_not, retE_and, retE_or, retE_ite, retE_tup, retE_lst, retE_sli, retE_call, retE_bi, retE_birng, retE_pop, retE_isi, retE_comp, retE_comp2, retE_sset, rval_s, shal_int, eqv_int]⟩
    · refine ⟨ns, by cases ns; exact absurd rfl hn; exact Nat.succ_pos _, by omega, by simp [evalSs, evalS.eq_1, evalS.eq_2, evalS.eq_3, evalS.eq_4, evalS.eq_5, evalS.eq_6, evalS.eq_7, evalS.eq_8, evalS.eq_9, evalS.eq_12, evalS.eq_13, evalS.eq_14, evalE.eq_1, evalE.eq_2, evalE.eq_3, evalE.eq_4, evalE.eq_5, evalE.eq_6, evalE.eq_7, evalE.eq_8, evalE.eq_9, evalE.eq_10, evalE.eq_11, evalE.eq_12, evalE.eq_13, evalE.eq_14, evalE.eq_15, evalE.eq_17, evalE.eq_18, evalE.eq_19, evalE.eq_20, evalE.eq_21, evalE.eq_22, evalE.eq_25, evalEs, evalO, evalC, evalIt, evI, evB_v, evB_cN, evB_cB, evB_cI, evB_cS, evB_bin, evB_chain, evB_neg, evB_not, evB_and, evB_or, evB_ite, evB_tup, evB_lst, evB_sli, evB_call, evB_bi, evB_birng, evB_pop, evB_isi, evB_comp, evB_comp2, evB_sset, bval_s, evVar, getS, RV.d, resB, slD, bi1, lenD, opB, op2, tst, andE, orE, asgN, asgs, asgR_d, asgR_n, asgT_n, asgT_t, asgR_t, nxO_s, seqO_nx, seqO_rt, seqO_bk, seqO_ct, okSt_un, okSt_im, okSt_mu, cellD_un, cellD_im, cellD_mu, cellD_pm, cellD_bo, setAt, appAt, revAt, augAt, augD, retE_v, retE_cN, retE_cB, retE_cI, retE_cS, retE_bin, retE_chain, retE_neg, retE_not, retE_and, retE_or, retE_ite, retE_tup, retE_lst, retE_sli, retE_call, retE_bi, retE_birng, retE_pop, retE_isi, retE_comp, retE_comp2, retE_sset, rval_s, shal_int, eqv_int, hn]⟩
  obtain ⟨cs, c1, c2, c3⟩ := h2
  obtain ⟨ds, e, m1, m2, m3⟩ := main cs c1 c2
  refine ⟨ds, run_eq (e := e) (b := drawsB1) (e0 := [.im (.list (il ns)), .im (.int m), .un, .un, .un, .un, .un, .un, .un]) h rfl rfl rfl ?_ rfl, m2, m3⟩
  rw [drawsB1, ss_cons_nx (e := [.im (.list (il ns)), .im (.int m), .mu (il ns), .un, .un, .un, .un, .un, .un]) (by rw [evalS, hc]; simp [evalSs, evalS.eq_1, evalS.eq_2, evalS.eq_3, evalS.eq_4, evalS.eq_5, evalS.eq_6, evalS.eq_7, evalS.eq_8, evalS.eq_9, evalS.eq_12, evalS.eq_13, evalS.eq_14, evalE.eq_1, evalE.eq_2, evalE.eq_3, evalE.eq_4, evalE.eq_5, evalE.eq_6, evalE.eq_7, evalE.eq_8, evalE.eq_9, evalE.eq_10, evalE.eq_11, evalE.eq_12, evalE.eq_13, evalE.eq_14, evalE.eq_15, evalE.eq_17, evalE.eq_18, evalE.eq_19, evalE.eq_20, evalE.eq_21, evalE.eq_22, evalE.eq_25, evalEs, evalO, evalC, evalIt, evI, evB_v, evB_cN, evB_cB, evB_cI, evB_cS, evB_bin, evB_chain, evB_neg, evB_not, evB_and, evB_or, evB_ite, evB_tup, evB_lst, evB_sli, evB_call, evB_bi, evB_birng, evB_pop, evB_isi, evB_comp, evB_comp2, evB_sset, bval_s, evVar, getS, RV.d, resB, slD, bi1, lenD, opB, op2, tst, andE, orE, asgN, asgs, asgR_d, asgR_n, asgT_n, asgT_t, asgR_t, nxO_s, seqO_nx, seqO_rt, seqO_bk, seqO_ct, okSt_un, okSt_im, okSt_mu, cellD_un, cellD_im, cellD_mu, cellD_pm, cellD_bo, setAt, appAt, revAt, augAt, augD, retE_v, retE_cN, retE_cB, retE_cI, retE_cS, retE_bin, retE_chain, retE_neg, retE_not, retE_and, retE_or, retE_ite, retE_tup, retE_lst, retE_sli, retE_call, retE_bi, retE_birng, retE_pop, retE_isi, retE_comp, retE_comp2, retE_sset, rval_s, shal_int, eqv_int]), ss_cons_nx c3]
  exact m1
end NG

/-! NG18: shared defs of the laws. -/
namespace NG
open PySem L2
theorem eqv_bool (a b : Bool) : PyData.eqv (.bool a) (.bool b) = decide (a = b) := by cases a <;> cases b <;> rfl
theorem shal_bool (b : Bool) (d : PyData) : shal d (.bool b) = true := by
  unfold shal
  simp [PyData.depth]
theorem shalL_int (i : Int) (ds : List PyData) : shalL (.int i) ds = true := by
  unfold shalL
  simp [PyData.depth]
theorem isIn_int (x : Int) : ∀ ns : List Int, isIn (.int x) (il ns) = decide (x ∈ ns)
  | [] => rfl
  | n :: ns => by
    show (PyData.eqv (.int n) (.int x) || isIn (.int x) (il ns)) = _
    rw [isIn_int x ns, eqv_int]
    by_cases h : x = n
    · subst h; simp
    · have : ¬ n = x := fun z => h z.symm
      simp [h, this]
theorem intsOf_il : ∀ ns : List Int, intsOf (il ns) = some ns
  | [] => rfl
  | n :: ns => by
    show (intsOf (il ns)).map _ = _
    rw [intsOf_il ns]
    rfl
theorem blsOf_map {α : Type} (f : α → Bool) : ∀ l : List α, blsOf (l.map fun x => PyData.bool (f x)) = some (l.map f)
  | [] => rfl
  | x :: l => by
    show (blsOf (l.map fun x => PyData.bool (f x))).map _ = _
    rw [blsOf_map f l]
    rfl
theorem rng1_map {β : Type} (f : PyData → β) (n : Nat) : (rng1 n).map f = (List.range n).map fun (i : Nat) => f (.int (i : Int)) := by
  unfold rng1
  rw [List.map_map]
  rfl
theorem rng1_flatMap {β : Type} (f : PyData → List β) (n : Nat) : (rng1 n).flatMap f = (List.range n).flatMap fun (i : Nat) => f (.int (i : Int)) := by
  unfold rng1
  rw [List.flatMap_map]
theorem mem_rng1 {n : Nat} {d : PyData} (h : d ∈ rng1 n) : ∃ i : Nat, i < n ∧ d = .int (i : Int) := by
  unfold rng1 at h
  obtain ⟨i, h1, rfl⟩ := List.mem_map.mp h
  exact ⟨i, List.mem_range.mp h1, rfl⟩
theorem flatMap_one {α β : Type} (f : α → β) (l : List α) : l.flatMap (fun x => [f x]) = l.map f := by
  induction l with
  | nil => rfl
  | cons x l ih => simp [ih]
theorem take_ex {T : Tab} {wf k id : Nat} (h : T id = some takeD) (ds : List Int) (m : Int) (hm : 0 < m) : ∃ (v : Nat) (ds' : List Int), callAt T wf (k + 1) id [.cell (il ds), .im (.int m)] = some (.dat (.int (v : Int)), [il ds']) ∧ (v : Int) < m := by
  have hv : 0 ≤ takeV ds m ∧ takeV ds m < m := by
    unfold takeV
    split
    · exact ⟨Int.le_refl 0, hm⟩
    · exact ⟨fmod_nn hm, fmod_lt hm⟩
  refine ⟨(takeV ds m).toNat, ds.dropLast, ?_, by omega⟩
  rw [take_spec h ds m (by omega)]
  have : ((takeV ds m).toNat : Int) = takeV ds m := by omega
  rw [this]
/-- an item of a written list of ints -/
theorem pick {ws : List Int} {j : Nat} (h : j < ws.length) : ∃ w, w ∈ ws ∧ (il ws)[j]? = some (.int w) ∧ ixn ws.length (j : Int) = some j :=
  ⟨ws[j], List.getElem_mem h, by rw [il_get, List.getElem?_eq_getElem h]; rfl, ixn_nat h⟩
theorem il_len (ns : List Int) : (il ns).length = ns.length := List.length_map _
theorem il_at {ns : List Int} {i : Nat} (h : i < ns.length) : (il ns)[i]? = some (.int (ns[i]?.getD 0)) := by
  rw [il_get, List.getElem?_eq_getElem h]
  rfl
end NG

namespace K49
open PySem L2 NG
/-! the text by places; what is read of it -/
def top (i : Nat) : Stmt := PySem.Challenge.pw_noghostkey_k49_what_surely_opens.main.body.getD i (.Pass ⟨0, 0, 0, 0⟩)
def fns : List (Str × Nat) := [("opens", 0), ("surely", 1), ("_law_draws", 2), ("_law_take", 3), ("_law_opens", 4), ("_law_lets_by", 5), ("_law_locks_and_keys", 6), ("_law_drawn_tries", 7), ("_law_says", 8), ("law", 9)]
/-- opens(lock, key) -/
def b0_0 : S := (.ret (.bi .all (.cons (.comp (.bin .inn (.bin .idx (.var 1) (.var 2)) (.bin .idx (.var 0) (.var 2))) (.name 2) (.r1 (.bi .len (.cons (.var 0) .nil))) .none [2]) .nil)))
def b0 : Ss := (.cons b0_0 .nil)
def d0 : Df := ⟨3, [false, false], b0⟩
/-- surely(locks, key) -/
def b1_0 : S := (.asg (.name 2) (.comp (.call 0 (.cons (.var 3) (.cons (.var 1) .nil))) (.name 3) (.e (.var 0)) .none [3]))
def b1_1 : S := (.iff (.bi .all (.cons (.var 2) .nil)) (.cons (.ret (.cS "yes")) .nil) .nil)
def b1_2 : S := (.ret (.ite (.bi .any (.cons (.var 2) .nil)) (.cS "perhaps") (.cS "no")))
def b1 : Ss := (.cons b1_0 (.cons b1_1 (.cons b1_2 .nil)))
def d1 : Df := ⟨4, [false, false], b1⟩
/-- _law_draws(script, many) -/
def b2_0 : S := (.asg (.name 2) (.comp (.bi .int (.cons (.var 3) .nil)) (.name 3) (.e (.var 0)) .none [3]))
def b2_1 : S := (.iff (.bin .eq (.bi .len (.cons (.var 2) .nil)) (.cI 0)) (.cons (.app 2 (.cI 0)) .nil) .nil)
def b2_2 : S := (.asg (.name 4) (.bi .list (.cons (.var 2) .nil)))
def b2_3 : S := (.asg (.name 5) (.lst .nil))
def b2_4b_0 : S := (.asg (.name 7) (.bin .mod (.var 6) (.bi .len (.cons (.var 2) .nil))))
def b2_4b_1 : S := (.iff (.and (.bin .ge (.bin .idx (.var 2) (.var 7)) (.bin .pow (.cI 10) (.cI 18))) (.bin .gt (.bin .idx (.var 4) (.var 7)) (.cI 0))) (.cons (.app 5 (.bin .mod (.bi .int (.cons (.bin .idx (.var 4) (.var 7)) .nil)) (.cI 1000))) (.cons (.seti 4 (.var 7) (.bin .fdiv (.bin .idx (.var 4) (.var 7)) (.cI 1000))) .nil)) (.cons (.asg (.name 8) (.bin .mod (.bi .int (.cons (.bin .add (.bin .add (.bin .mul (.bin .idx (.var 2) (.var 7)) (.cI 48271)) (.bin .mul (.var 6) (.cI 69621))) (.cI 11)) .nil)) (.cI 2147483647))) (.cons (.app 5 (.bin .mod (.bi .int (.cons (.bin .add (.bin .add (.bin .mul (.var 8) (.var 8)) (.bin .mul (.cI 3) (.var 8))) (.var 6)) .nil)) (.cI 1000003))) .nil)))
def b2_4b : Ss := (.cons b2_4b_0 (.cons b2_4b_1 .nil))
def b2_4 : S := (.for (.name 6) (.r1 (.var 1)) b2_4b)
def b2_5 : S := (.rev 5)
def b2_6 : S := (.ret (.var 5))
def b2 : Ss := (.cons b2_0 (.cons b2_1 (.cons b2_2 (.cons b2_3 (.cons b2_4 (.cons b2_5 (.cons b2_6 .nil)))))))
def d2 : Df := ⟨9, [false, false], b2⟩
/-- _law_take(draws, many) -/
def b3_0 : S := (.iff (.bin .eq (.bi .len (.cons (.var 0) .nil)) (.cI 0)) (.cons (.ret (.cI 0)) .nil) .nil)
def b3_1 : S := (.ret (.bin .mod (.bi .int (.cons (.pop 0) .nil)) (.var 1)))
def b3 : Ss := (.cons b3_0 (.cons b3_1 .nil))
def d3 : Df := ⟨2, [true, false], b3⟩
/-- _law_opens(lock, key) -/
def b4_0 : S := (.ret (.bin .eq (.bi .len (.cons (.comp (.var 2) (.name 2) (.r1 (.bi .len (.cons (.var 0) .nil))) (.some (.bin .notin (.bin .idx (.var 1) (.var 2)) (.bin .idx (.var 0) (.var 2)))) [2]) .nil)) (.cI 0)))
def b4 : Ss := (.cons b4_0 .nil)
def d4 : Df := ⟨3, [false, false], b4⟩
/-- _law_lets_by(draws, depths) -/
def b5_0 : S := (.asg (.name 2) (.lst (.cons (.call 3 (.cons (.var 0) (.cons (.var 1) .nil))) .nil)))
def b5_1b_0 : S := (.app 2 (.call 3 (.cons (.var 0) (.cons (.var 1) .nil))))
def b5_1b : Ss := (.cons b5_1b_0 .nil)
def b5_1 : S := (.for (.name 3) (.r1 (.call 3 (.cons (.var 0) (.cons (.cI 3) .nil)))) b5_1b)
def b5_2 : S := (.ret (.bi .tuple (.cons (.sset (.var 2)) .nil)))
def b5 : Ss := (.cons b5_0 (.cons b5_1 (.cons b5_2 .nil)))
def d5 : Df := ⟨4, [true, false], b5⟩
/-- _law_locks_and_keys(draws, many, count) -/
def b6_0 : S := (.asg (.name 3) (.lst .nil))
def b6_1 : S := (.asg (.name 4) (.lst .nil))
def b6_2t_0b_0 : S := (.app 4 (.bi .tuple (.cons (.comp (.bi .int (.cons (.bin .eq (.var 6) (.var 5)) .nil)) (.name 6) (.r1 (.var 2)) .none [6]) .nil)))
def b6_2t_0b : Ss := (.cons b6_2t_0b_0 .nil)
def b6_2t_0 : S := (.for (.name 5) (.r1 (.var 2)) b6_2t_0b)
def b6_2t_1b_0 : S := (.app 3 (.bi .tuple (.cons (.comp (.bin .idx (.lst (.cons (.tup (.cons (.cI 0) .nil)) (.cons (.tup (.cons (.cI 0) (.cons (.cI 1) .nil))) .nil))) (.call 3 (.cons (.var 0) (.cons (.cI 2) .nil)))) (.name 6) (.r1 (.var 2)) .none [6]) .nil)))
def b6_2t_1b : Ss := (.cons b6_2t_1b_0 .nil)
def b6_2t_1 : S := (.for (.name 5) (.r1 (.var 1)) b6_2t_1b)
def b6_2t : Ss := (.cons b6_2t_0 (.cons b6_2t_1 .nil))
def b6_2f_0 : S := (.asg (.name 7) (.bin .add (.cI 1) (.call 3 (.cons (.var 0) (.cons (.bin .idx (.lst (.cons (.cI 2) (.cons (.cI 3) (.cons (.cI 12) .nil)))) (.call 3 (.cons (.var 0) (.cons (.cI 3) .nil)))) .nil)))))
def b6_2f_1 : S := (.asg (.name 8) (.bin .add (.cI 2) (.call 3 (.cons (.var 0) (.cons (.bin .idx (.lst (.cons (.cI 2) (.cons (.cI 3) (.cons (.cI 11) .nil)))) (.call 3 (.cons (.var 0) (.cons (.cI 3) .nil)))) .nil)))))
def b6_2f_2b_0 : S := (.app 3 (.bi .tuple (.cons (.comp (.call 5 (.cons (.var 0) (.cons (.var 8) .nil))) (.name 6) (.r1 (.var 7)) .none [6]) .nil)))
def b6_2f_2b : Ss := (.cons b6_2f_2b_0 .nil)
def b6_2f_2 : S := (.for (.name 5) (.r1 (.var 1)) b6_2f_2b)
def b6_2f_3b_0 : S := (.asg (.name 9) (.bin .idx (.var 3) (.call 3 (.cons (.var 0) (.cons (.var 1) .nil)))))
def b6_2f_3b_1 : S := (.asg (.name 10) (.lst .nil))
def b6_2f_3b_2b_0 : S := (.app 10 (.bin .idx (.lst (.cons (.bin .idx (.bin .idx (.var 9) (.var 6)) (.call 3 (.cons (.var 0) (.cons (.bi .len (.cons (.bin .idx (.var 9) (.var 6)) .nil)) .nil)))) (.cons (.call 3 (.cons (.var 0) (.cons (.var 8) .nil))) .nil))) (.bi .int (.cons (.bin .eq (.call 3 (.cons (.var 0) (.cons (.cI 4) .nil))) (.cI 0)) .nil))))
def b6_2f_3b_2b : Ss := (.cons b6_2f_3b_2b_0 .nil)
def b6_2f_3b_2 : S := (.for (.name 6) (.r1 (.var 7)) b6_2f_3b_2b)
def b6_2f_3b_3 : S := (.app 4 (.bi .tuple (.cons (.var 10) .nil)))
def b6_2f_3b : Ss := (.cons b6_2f_3b_0 (.cons b6_2f_3b_1 (.cons b6_2f_3b_2 (.cons b6_2f_3b_3 .nil))))
def b6_2f_3 : S := (.for (.name 5) (.r1 (.var 2)) b6_2f_3b)
def b6_2f : Ss := (.cons b6_2f_0 (.cons b6_2f_1 (.cons b6_2f_2 (.cons b6_2f_3 .nil))))
def b6_2 : S := (.iff (.bin .eq (.call 3 (.cons (.var 0) (.cons (.cI 2) .nil))) (.cI 0)) b6_2t b6_2f)
def b6_3 : S := (.iff (.and (.bin .gt (.var 1) (.cI 1)) (.bin .eq (.call 3 (.cons (.var 0) (.cons (.cI 3) .nil))) (.cI 0))) (.cons (.seti 3 (.call 3 (.cons (.var 0) (.cons (.var 1) .nil))) (.bin .idx (.var 3) (.call 3 (.cons (.var 0) (.cons (.var 1) .nil))))) .nil) .nil)
def b6_4 : S := (.ret (.tup (.cons (.bi .tuple (.cons (.var 3) .nil)) (.cons (.bi .tuple (.cons (.var 4) .nil)) .nil))))
def b6 : Ss := (.cons b6_0 (.cons b6_1 (.cons b6_2 (.cons b6_3 (.cons b6_4 .nil)))))
def d6 : Df := ⟨11, [true, false, false], b6⟩
/-- _law_drawn_tries(draws) -/
def b7_0 : S := (.asg (.name 1) (.bin .add (.cI 1) (.call 3 (.cons (.var 0) (.cons (.bin .idx (.lst (.cons (.cI 3) (.cons (.cI 5) (.cons (.cI 8) .nil)))) (.call 3 (.cons (.var 0) (.cons (.cI 3) .nil)))) .nil)))))
def b7_1 : S := (.ret (.call 6 (.cons (.var 0) (.cons (.var 1) (.cons (.bin .add (.cI 1) (.call 3 (.cons (.var 0) (.cons (.bin .idx (.lst (.cons (.cI 3) (.cons (.cI 5) (.cons (.cI 12) .nil)))) (.call 3 (.cons (.var 0) (.cons (.cI 3) .nil)))) .nil)))) .nil)))))
def b7 : Ss := (.cons b7_0 (.cons b7_1 .nil))
def d7 : Df := ⟨2, [true], b7⟩
/-- _law_says(locks, key) -/
def b8_0 : S := (.asg (.name 2) (.bi .len (.cons (.comp (.var 3) (.name 3) (.e (.var 0)) (.some (.call 4 (.cons (.var 3) (.cons (.var 1) .nil)))) [3]) .nil)))
def b8_1 : S := (.asg (.name 4) (.cS "perhaps"))
def b8_2 : S := (.iff (.bin .eq (.var 2) (.bi .len (.cons (.var 0) .nil))) (.cons (.asg (.name 4) (.cS "yes")) .nil) .nil)
def b8_3 : S := (.iff (.bin .eq (.var 2) (.cI 0)) (.cons (.asg (.name 4) (.cS "no")) .nil) .nil)
def b8_4 : S := (.asg (.name 5) (.call 1 (.cons (.var 0) (.cons (.var 1) .nil))))
def b8_5 : S := (.ret (.and (.isi (.var 5) .str) (.bin .eq (.var 5) (.var 4))))
def b8 : Ss := (.cons b8_0 (.cons b8_1 (.cons b8_2 (.cons b8_3 (.cons b8_4 (.cons b8_5 .nil))))))
def d8 : Df := ⟨6, [false, false], b8⟩
/-- law(script) -/
def b9_0 : S := (.asg (.name 1) (.call 2 (.cons (.var 0) (.cons (.cI 1000) .nil))))
def b9_1 : S := (.asg (.tup [2, 3]) (.call 7 (.cons (.var 1) .nil)))
def b9_2 : S := (.asg (.name 4) (.bi .list (.cons (.var 3) .nil)))
def b9_3b_0 : S := (.asg (.name 6) (.call 3 (.cons (.var 1) (.cons (.bi .len (.cons (.var 5) .nil)) .nil))))
def b9_3b_1 : S := (.app 4 (.bin .add (.bin .add (.sli (.var 5) .none (.some (.var 6))) (.tup (.cons (.call 3 (.cons (.var 1) (.cons (.cI 12) .nil))) .nil))) (.sli (.var 5) (.some (.bin .add (.var 6) (.cI 1))) .none)))
def b9_3b : Ss := (.cons b9_3b_0 (.cons b9_3b_1 .nil))
def b9_3 : S := (.for (.name 5) (.e (.sli (.var 3) .none (.some (.cI 3)))) b9_3b)
def b9_4 : S := (.asg (.name 6) (.call 3 (.cons (.var 1) (.cons (.bi .len (.cons (.var 2) .nil)) .nil))))
def b9_5 : S := (.asg (.name 7) (.bin .idx (.var 2) (.var 6)))
def b9_6 : S := (.app 4 (.bi .tuple (.cons (.comp (.bin .idx (.var 8) (.call 3 (.cons (.var 1) (.cons (.bi .len (.cons (.var 8) .nil)) .nil)))) (.name 8) (.e (.var 7)) .none [8]) .nil)))
def b9_7b_0 : S := (.iff (.or (.not (.call 8 (.cons (.var 2) (.cons (.var 5) .nil)))) (.or (.not (.call 8 (.cons (.tup (.cons (.var 7) .nil)) (.cons (.var 5) .nil)))) (.not (.call 8 (.cons (.bin .add (.sli (.var 2) (.some (.var 6)) .none) (.sli (.var 2) .none (.some (.var 6)))) (.cons (.var 5) .nil)))))) (.cons (.ret (.cB false)) .nil) .nil)
def b9_7b : Ss := (.cons b9_7b_0 .nil)
def b9_7 : S := (.for (.name 5) (.e (.var 4)) b9_7b)
def b9_8 : S := (.asg (.name 9) (.call 3 (.cons (.var 1) (.cons (.cI 9) .nil))))
def b9_9 : S := (.asg (.name 10) (.tup (.cons (.tup (.cons (.tup (.cons (.var 9) (.cons (.bin .add (.var 9) (.cI 2)) .nil))) (.cons (.tup (.cons (.var 9) .nil)) .nil))) (.cons (.tup (.cons (.tup (.cons (.bin .add (.var 9) (.cI 1)) (.cons (.bin .add (.var 9) (.cI 2)) .nil))) (.cons (.tup (.cons (.var 9) (.cons (.bin .add (.var 9) (.cI 1)) .nil))) .nil))) .nil))))
def b9_10b_0 : S := (.iff (.bin .ne (.call 1 (.cons (.var 10) (.cons (.var 5) .nil))) (.var 11)) (.cons (.ret (.cB false)) .nil) .nil)
def b9_10b : Ss := (.cons b9_10b_0 .nil)
def b9_10 : S := (.for (.tup [5, 11]) (.e (.lst (.cons (.tup (.cons (.tup (.cons (.bin .add (.var 9) (.cI 2)) (.cons (.var 9) .nil))) (.cons (.cS "yes") .nil))) (.cons (.tup (.cons (.tup (.cons (.bin .add (.var 9) (.cI 1)) (.cons (.var 9) .nil))) (.cons (.cS "perhaps") .nil))) (.cons (.tup (.cons (.tup (.cons (.var 9) (.cons (.bin .add (.var 9) (.cI 1)) .nil))) (.cons (.cS "no") .nil))) (.cons (.tup (.cons (.tup (.cons (.var 9) (.cons (.var 9) .nil))) (.cons (.cS "perhaps") .nil))) .nil)))))) b9_10b)
def b9_11 : S := (.ret (.call 8 (.cons (.var 2) (.cons (.bin .idx (.var 4) (.cI 0)) .nil))))
def b9 : Ss := (.cons b9_0 (.cons b9_1 (.cons b9_2 (.cons b9_3 (.cons b9_4 (.cons b9_5 (.cons b9_6 (.cons b9_7 (.cons b9_8 (.cons b9_9 (.cons b9_10 (.cons b9_11 .nil))))))))))))
def d9 : Df := ⟨12, [false], b9⟩
def T : Tab := fun i => match i with
  | 0 => some d0
  | 1 => some d1
  | 2 => some d2
  | 3 => some d3
  | 4 => some d4
  | 5 => some d5
  | 6 => some d6
  | 7 => some d7
  | 8 => some d8
  | 9 => some d9
  | _ => none
theorem s0 : FnScope ["lock", "key", "chamber"] ["lock", "key"] (defScope (top 1)) := ⟨rfl, rfl, rfl, by decide +kernel, rfl, by decide +kernel, by decide +kernel⟩
theorem r0 : cSs ⟨["lock", "key", "chamber"], fns⟩ 300 (defScope (top 1)) (defBody (top 1)) = some d0.body := by kernel_rfl
theorem e0 {K : PySem.W.Frag} {h : Heap} {mg : Str → Option Value} {f : Addr} {oc : Value} {od an : Option Addr} {osl : Array (Option Value)} {kV doc pm cdv ct : Value} (X : K.In h) (G : h.Ns mainGlobals mg) (a : PySem.W.nsIn K mainGlobals "opens" = some (some (.ref f)))
    (l : K.lookup f = some ⟨oc, od, .func (PySem.W.fnOf "opens" "opens" (defArgs (top 1)) (defBody (top 1)) (defScope (top 1)) .none kV doc pm an cdv ct), osl⟩) (c : PySem.W.codeIn K cdv "opens" = true) (k : PySem.W.keepIn K (.ref f) = true) : ∃ f fd ps, Ent K mg fns T "opens" 0 f fd ps :=
  ⟨_, _, _, ent_mk (d := d0) X G rfl s0 rfl r0 rfl (fun _ _ _ _ _ _ us hl => match us, hl with | [_, _], _ => rfl) (by decide +kernel) a l c k⟩
theorem s1 : FnScope ["locks", "key", "found", "lock"] ["locks", "key"] (defScope (top 3)) := ⟨rfl, rfl, rfl, by decide +kernel, rfl, by decide +kernel, by decide +kernel⟩
theorem r1 : cSs ⟨["locks", "key", "found", "lock"], fns⟩ 300 (defScope (top 3)) (defBody (top 3)) = some d1.body := by kernel_rfl
theorem e1 {K : PySem.W.Frag} {h : Heap} {mg : Str → Option Value} {f : Addr} {oc : Value} {od an : Option Addr} {osl : Array (Option Value)} {kV doc pm cdv ct : Value} (X : K.In h) (G : h.Ns mainGlobals mg) (a : PySem.W.nsIn K mainGlobals "surely" = some (some (.ref f)))
    (l : K.lookup f = some ⟨oc, od, .func (PySem.W.fnOf "surely" "surely" (defArgs (top 3)) (defBody (top 3)) (defScope (top 3)) .none kV doc pm an cdv ct), osl⟩) (c : PySem.W.codeIn K cdv "surely" = true) (k : PySem.W.keepIn K (.ref f) = true) : ∃ f fd ps, Ent K mg fns T "surely" 1 f fd ps :=
  ⟨_, _, _, ent_mk (d := d1) X G rfl s1 rfl r1 rfl (fun _ _ _ _ _ _ us hl => match us, hl with | [_, _], _ => rfl) (by decide +kernel) a l c k⟩
theorem s2 : FnScope ["script", "many", "cells", "cell", "rest", "drawn", "k", "at", "once"] ["script", "many"] (defScope (top 5)) := ⟨rfl, rfl, rfl, by decide +kernel, rfl, by decide +kernel, by decide +kernel⟩
theorem r2 : cSs ⟨["script", "many", "cells", "cell", "rest", "drawn", "k", "at", "once"], fns⟩ 300 (defScope (top 5)) (defBody (top 5)) = some d2.body := by kernel_rfl
theorem e2 {K : PySem.W.Frag} {h : Heap} {mg : Str → Option Value} {f : Addr} {oc : Value} {od an : Option Addr} {osl : Array (Option Value)} {kV doc pm cdv ct : Value} (X : K.In h) (G : h.Ns mainGlobals mg) (a : PySem.W.nsIn K mainGlobals "_law_draws" = some (some (.ref f)))
    (l : K.lookup f = some ⟨oc, od, .func (PySem.W.fnOf "_law_draws" "_law_draws" (defArgs (top 5)) (defBody (top 5)) (defScope (top 5)) .none kV doc pm an cdv ct), osl⟩) (c : PySem.W.codeIn K cdv "_law_draws" = true) (k : PySem.W.keepIn K (.ref f) = true) : ∃ f fd ps, Ent K mg fns T "_law_draws" 2 f fd ps :=
  ⟨_, _, _, ent_mk (d := d2) X G rfl s2 rfl r2 rfl (fun _ _ _ _ _ _ us hl => match us, hl with | [_, _], _ => rfl) (by decide +kernel) a l c k⟩
theorem s3 : FnScope ["draws", "many"] ["draws", "many"] (defScope (top 6)) := ⟨rfl, rfl, rfl, by decide +kernel, rfl, by decide +kernel, by decide +kernel⟩
theorem r3 : cSs ⟨["draws", "many"], fns⟩ 300 (defScope (top 6)) (defBody (top 6)) = some d3.body := by kernel_rfl
theorem e3 {K : PySem.W.Frag} {h : Heap} {mg : Str → Option Value} {f : Addr} {oc : Value} {od an : Option Addr} {osl : Array (Option Value)} {kV doc pm cdv ct : Value} (X : K.In h) (G : h.Ns mainGlobals mg) (a : PySem.W.nsIn K mainGlobals "_law_take" = some (some (.ref f)))
    (l : K.lookup f = some ⟨oc, od, .func (PySem.W.fnOf "_law_take" "_law_take" (defArgs (top 6)) (defBody (top 6)) (defScope (top 6)) .none kV doc pm an cdv ct), osl⟩) (c : PySem.W.codeIn K cdv "_law_take" = true) (k : PySem.W.keepIn K (.ref f) = true) : ∃ f fd ps, Ent K mg fns T "_law_take" 3 f fd ps :=
  ⟨_, _, _, ent_mk (d := d3) X G rfl s3 rfl r3 rfl (fun _ _ _ _ _ _ us hl => match us, hl with | [_, _], _ => rfl) (by decide +kernel) a l c k⟩
theorem s4 : FnScope ["lock", "key", "at"] ["lock", "key"] (defScope (top 7)) := ⟨rfl, rfl, rfl, by decide +kernel, rfl, by decide +kernel, by decide +kernel⟩
theorem r4 : cSs ⟨["lock", "key", "at"], fns⟩ 300 (defScope (top 7)) (defBody (top 7)) = some d4.body := by kernel_rfl
theorem e4 {K : PySem.W.Frag} {h : Heap} {mg : Str → Option Value} {f : Addr} {oc : Value} {od an : Option Addr} {osl : Array (Option Value)} {kV doc pm cdv ct : Value} (X : K.In h) (G : h.Ns mainGlobals mg) (a : PySem.W.nsIn K mainGlobals "_law_opens" = some (some (.ref f)))
    (l : K.lookup f = some ⟨oc, od, .func (PySem.W.fnOf "_law_opens" "_law_opens" (defArgs (top 7)) (defBody (top 7)) (defScope (top 7)) .none kV doc pm an cdv ct), osl⟩) (c : PySem.W.codeIn K cdv "_law_opens" = true) (k : PySem.W.keepIn K (.ref f) = true) : ∃ f fd ps, Ent K mg fns T "_law_opens" 4 f fd ps :=
  ⟨_, _, _, ent_mk (d := d4) X G rfl s4 rfl r4 rfl (fun _ _ _ _ _ _ us hl => match us, hl with | [_, _], _ => rfl) (by decide +kernel) a l c k⟩
theorem s5 : FnScope ["draws", "depths", "some", "k"] ["draws", "depths"] (defScope (top 8)) := ⟨rfl, rfl, rfl, by decide +kernel, rfl, by decide +kernel, by decide +kernel⟩
theorem r5 : cSs ⟨["draws", "depths", "some", "k"], fns⟩ 300 (defScope (top 8)) (defBody (top 8)) = some d5.body := by kernel_rfl
theorem e5 {K : PySem.W.Frag} {h : Heap} {mg : Str → Option Value} {f : Addr} {oc : Value} {od an : Option Addr} {osl : Array (Option Value)} {kV doc pm cdv ct : Value} (X : K.In h) (G : h.Ns mainGlobals mg) (a : PySem.W.nsIn K mainGlobals "_law_lets_by" = some (some (.ref f)))
    (l : K.lookup f = some ⟨oc, od, .func (PySem.W.fnOf "_law_lets_by" "_law_lets_by" (defArgs (top 8)) (defBody (top 8)) (defScope (top 8)) .none kV doc pm an cdv ct), osl⟩) (c : PySem.W.codeIn K cdv "_law_lets_by" = true) (k : PySem.W.keepIn K (.ref f) = true) : ∃ f fd ps, Ent K mg fns T "_law_lets_by" 5 f fd ps :=
  ⟨_, _, _, ent_mk (d := d5) X G rfl s5 rfl r5 rfl (fun _ _ _ _ _ _ us hl => match us, hl with | [_, _], _ => rfl) (by decide +kernel) a l c k⟩
theorem s6 : FnScope ["draws", "many", "count", "locks", "keys", "k", "at", "chambers", "depths", "lock", "key"] ["draws", "many", "count"] (defScope (top 9)) := ⟨rfl, rfl, rfl, by decide +kernel, rfl, by decide +kernel, by decide +kernel⟩
theorem r6 : cSs ⟨["draws", "many", "count", "locks", "keys", "k", "at", "chambers", "depths", "lock", "key"], fns⟩ 300 (defScope (top 9)) (defBody (top 9)) = some d6.body := by kernel_rfl
theorem e6 {K : PySem.W.Frag} {h : Heap} {mg : Str → Option Value} {f : Addr} {oc : Value} {od an : Option Addr} {osl : Array (Option Value)} {kV doc pm cdv ct : Value} (X : K.In h) (G : h.Ns mainGlobals mg) (a : PySem.W.nsIn K mainGlobals "_law_locks_and_keys" = some (some (.ref f)))
    (l : K.lookup f = some ⟨oc, od, .func (PySem.W.fnOf "_law_locks_and_keys" "_law_locks_and_keys" (defArgs (top 9)) (defBody (top 9)) (defScope (top 9)) .none kV doc pm an cdv ct), osl⟩) (c : PySem.W.codeIn K cdv "_law_locks_and_keys" = true) (k : PySem.W.keepIn K (.ref f) = true) : ∃ f fd ps, Ent K mg fns T "_law_locks_and_keys" 6 f fd ps :=
  ⟨_, _, _, ent_mk (d := d6) X G rfl s6 rfl r6 rfl (fun _ _ _ _ _ _ us hl => match us, hl with | [_, _, _], _ => rfl) (by decide +kernel) a l c k⟩
theorem s7 : FnScope ["draws", "many"] ["draws"] (defScope (top 10)) := ⟨rfl, rfl, rfl, by decide +kernel, rfl, by decide +kernel, by decide +kernel⟩
theorem r7 : cSs ⟨["draws", "many"], fns⟩ 300 (defScope (top 10)) (defBody (top 10)) = some d7.body := by kernel_rfl
theorem e7 {K : PySem.W.Frag} {h : Heap} {mg : Str → Option Value} {f : Addr} {oc : Value} {od an : Option Addr} {osl : Array (Option Value)} {kV doc pm cdv ct : Value} (X : K.In h) (G : h.Ns mainGlobals mg) (a : PySem.W.nsIn K mainGlobals "_law_drawn_tries" = some (some (.ref f)))
    (l : K.lookup f = some ⟨oc, od, .func (PySem.W.fnOf "_law_drawn_tries" "_law_drawn_tries" (defArgs (top 10)) (defBody (top 10)) (defScope (top 10)) .none kV doc pm an cdv ct), osl⟩) (c : PySem.W.codeIn K cdv "_law_drawn_tries" = true) (k : PySem.W.keepIn K (.ref f) = true) : ∃ f fd ps, Ent K mg fns T "_law_drawn_tries" 7 f fd ps :=
  ⟨_, _, _, ent_mk (d := d7) X G rfl s7 rfl r7 rfl (fun _ _ _ _ _ _ us hl => match us, hl with | [_], _ => rfl) (by decide +kernel) a l c k⟩
theorem s8 : FnScope ["locks", "key", "many", "lock", "due", "told"] ["locks", "key"] (defScope (top 11)) := ⟨rfl, rfl, rfl, by decide +kernel, rfl, by decide +kernel, by decide +kernel⟩
theorem r8 : cSs ⟨["locks", "key", "many", "lock", "due", "told"], fns⟩ 300 (defScope (top 11)) (defBody (top 11)) = some d8.body := by kernel_rfl
theorem e8 {K : PySem.W.Frag} {h : Heap} {mg : Str → Option Value} {f : Addr} {oc : Value} {od an : Option Addr} {osl : Array (Option Value)} {kV doc pm cdv ct : Value} (X : K.In h) (G : h.Ns mainGlobals mg) (a : PySem.W.nsIn K mainGlobals "_law_says" = some (some (.ref f)))
    (l : K.lookup f = some ⟨oc, od, .func (PySem.W.fnOf "_law_says" "_law_says" (defArgs (top 11)) (defBody (top 11)) (defScope (top 11)) .none kV doc pm an cdv ct), osl⟩) (c : PySem.W.codeIn K cdv "_law_says" = true) (k : PySem.W.keepIn K (.ref f) = true) : ∃ f fd ps, Ent K mg fns T "_law_says" 8 f fd ps :=
  ⟨_, _, _, ent_mk (d := d8) X G rfl s8 rfl r8 rfl (fun _ _ _ _ _ _ us hl => match us, hl with | [_, _], _ => rfl) (by decide +kernel) a l c k⟩
theorem s9 : FnScope ["script", "draws", "locks", "keys", "asked", "key", "at", "lock", "cuts", "cut", "pair", "due"] ["script"] (defScope (top 12)) := ⟨rfl, rfl, rfl, by decide +kernel, rfl, by decide +kernel, by decide +kernel⟩
theorem r9 : cSs ⟨["script", "draws", "locks", "keys", "asked", "key", "at", "lock", "cuts", "cut", "pair", "due"], fns⟩ 300 (defScope (top 12)) (defBody (top 12)) = some d9.body := by kernel_rfl
theorem e9 {K : PySem.W.Frag} {h : Heap} {mg : Str → Option Value} {f : Addr} {oc : Value} {od an : Option Addr} {osl : Array (Option Value)} {kV doc pm cdv ct : Value} (X : K.In h) (G : h.Ns mainGlobals mg) (a : PySem.W.nsIn K mainGlobals "law" = some (some (.ref f)))
    (l : K.lookup f = some ⟨oc, od, .func (PySem.W.fnOf "law" "law" (defArgs (top 12)) (defBody (top 12)) (defScope (top 12)) .none kV doc pm an cdv ct), osl⟩) (c : PySem.W.codeIn K cdv "law" = true) (k : PySem.W.keepIn K (.ref f) = true) : ∃ f fd ps, Ent K mg fns T "law" 9 f fd ps :=
  ⟨_, _, _, ent_mk (d := d9) X G rfl s9 rfl r9 rfl (fun _ _ _ _ _ _ us hl => match us, hl with | [_], _ => rfl) (by decide +kernel) a l c k⟩
theorem all_mk {K : PySem.W.Frag} {h : Heap} {mg : Str → Option Value} {fa : Addr} {f0 : Addr} {oc0 kV0 dc0 pm0 cd0 ct0 : Value} {od0 an0 : Option Addr} {sl0 : Array (Option Value)} {f1 : Addr} {oc1 kV1 dc1 pm1 cd1 ct1 : Value} {od1 an1 : Option Addr} {sl1 : Array (Option Value)} {f2 : Addr} {oc2 kV2 dc2 pm2 cd2 ct2 : Value} {od2 an2 : Option Addr} {sl2 : Array (Option Value)} {f3 : Addr} {oc3 kV3 dc3 pm3 cd3 ct3 : Value} {od3 an3 : Option Addr} {sl3 : Array (Option Value)} {f4 : Addr} {oc4 kV4 dc4 pm4 cd4 ct4 : Value} {od4 an4 : Option Addr} {sl4 : Array (Option Value)} {f5 : Addr} {oc5 kV5 dc5 pm5 cd5 ct5 : Value} {od5 an5 : Option Addr} {sl5 : Array (Option Value)} {f6 : Addr} {oc6 kV6 dc6 pm6 cd6 ct6 : Value} {od6 an6 : Option Addr} {sl6 : Array (Option Value)} {f7 : Addr} {oc7 kV7 dc7 pm7 cd7 ct7 : Value} {od7 an7 : Option Addr} {sl7 : Array (Option Value)} {f8 : Addr} {oc8 kV8 dc8 pm8 cd8 ct8 : Value} {od8 an8 : Option Addr} {sl8 : Array (Option Value)} {f9 : Addr} {oc9 kV9 dc9 pm9 cd9 ct9 : Value} {od9 an9 : Option Addr} {sl9 : Array (Option Value)} (X : K.In h) (G : h.Ns mainGlobals mg) (hfa : mg "law" = some (.ref fa))
    (a0 : PySem.W.nsIn K mainGlobals "opens" = some (some (.ref f0))) (l0 : K.lookup f0 = some ⟨oc0, od0, .func (PySem.W.fnOf "opens" "opens" (defArgs (top 1)) (defBody (top 1)) (defScope (top 1)) .none kV0 dc0 pm0 an0 cd0 ct0), sl0⟩) (c0 : PySem.W.codeIn K cd0 "opens" = true) (k0 : PySem.W.keepIn K (.ref f0) = true)
    (a1 : PySem.W.nsIn K mainGlobals "surely" = some (some (.ref f1))) (l1 : K.lookup f1 = some ⟨oc1, od1, .func (PySem.W.fnOf "surely" "surely" (defArgs (top 3)) (defBody (top 3)) (defScope (top 3)) .none kV1 dc1 pm1 an1 cd1 ct1), sl1⟩) (c1 : PySem.W.codeIn K cd1 "surely" = true) (k1 : PySem.W.keepIn K (.ref f1) = true)
    (a2 : PySem.W.nsIn K mainGlobals "_law_draws" = some (some (.ref f2))) (l2 : K.lookup f2 = some ⟨oc2, od2, .func (PySem.W.fnOf "_law_draws" "_law_draws" (defArgs (top 5)) (defBody (top 5)) (defScope (top 5)) .none kV2 dc2 pm2 an2 cd2 ct2), sl2⟩) (c2 : PySem.W.codeIn K cd2 "_law_draws" = true) (k2 : PySem.W.keepIn K (.ref f2) = true)
    (a3 : PySem.W.nsIn K mainGlobals "_law_take" = some (some (.ref f3))) (l3 : K.lookup f3 = some ⟨oc3, od3, .func (PySem.W.fnOf "_law_take" "_law_take" (defArgs (top 6)) (defBody (top 6)) (defScope (top 6)) .none kV3 dc3 pm3 an3 cd3 ct3), sl3⟩) (c3 : PySem.W.codeIn K cd3 "_law_take" = true) (k3 : PySem.W.keepIn K (.ref f3) = true)
    (a4 : PySem.W.nsIn K mainGlobals "_law_opens" = some (some (.ref f4))) (l4 : K.lookup f4 = some ⟨oc4, od4, .func (PySem.W.fnOf "_law_opens" "_law_opens" (defArgs (top 7)) (defBody (top 7)) (defScope (top 7)) .none kV4 dc4 pm4 an4 cd4 ct4), sl4⟩) (c4 : PySem.W.codeIn K cd4 "_law_opens" = true) (k4 : PySem.W.keepIn K (.ref f4) = true)
    (a5 : PySem.W.nsIn K mainGlobals "_law_lets_by" = some (some (.ref f5))) (l5 : K.lookup f5 = some ⟨oc5, od5, .func (PySem.W.fnOf "_law_lets_by" "_law_lets_by" (defArgs (top 8)) (defBody (top 8)) (defScope (top 8)) .none kV5 dc5 pm5 an5 cd5 ct5), sl5⟩) (c5 : PySem.W.codeIn K cd5 "_law_lets_by" = true) (k5 : PySem.W.keepIn K (.ref f5) = true)
    (a6 : PySem.W.nsIn K mainGlobals "_law_locks_and_keys" = some (some (.ref f6))) (l6 : K.lookup f6 = some ⟨oc6, od6, .func (PySem.W.fnOf "_law_locks_and_keys" "_law_locks_and_keys" (defArgs (top 9)) (defBody (top 9)) (defScope (top 9)) .none kV6 dc6 pm6 an6 cd6 ct6), sl6⟩) (c6 : PySem.W.codeIn K cd6 "_law_locks_and_keys" = true) (k6 : PySem.W.keepIn K (.ref f6) = true)
    (a7 : PySem.W.nsIn K mainGlobals "_law_drawn_tries" = some (some (.ref f7))) (l7 : K.lookup f7 = some ⟨oc7, od7, .func (PySem.W.fnOf "_law_drawn_tries" "_law_drawn_tries" (defArgs (top 10)) (defBody (top 10)) (defScope (top 10)) .none kV7 dc7 pm7 an7 cd7 ct7), sl7⟩) (c7 : PySem.W.codeIn K cd7 "_law_drawn_tries" = true) (k7 : PySem.W.keepIn K (.ref f7) = true)
    (a8 : PySem.W.nsIn K mainGlobals "_law_says" = some (some (.ref f8))) (l8 : K.lookup f8 = some ⟨oc8, od8, .func (PySem.W.fnOf "_law_says" "_law_says" (defArgs (top 11)) (defBody (top 11)) (defScope (top 11)) .none kV8 dc8 pm8 an8 cd8 ct8), sl8⟩) (c8 : PySem.W.codeIn K cd8 "_law_says" = true) (k8 : PySem.W.keepIn K (.ref f8) = true)
    (a9 : PySem.W.nsIn K mainGlobals "law" = some (some (.ref f9))) (l9 : K.lookup f9 = some ⟨oc9, od9, .func (PySem.W.fnOf "law" "law" (defArgs (top 12)) (defBody (top 12)) (defScope (top 12)) .none kV9 dc9 pm9 an9 cd9 ct9), sl9⟩) (c9 : PySem.W.codeIn K cd9 "law" = true) (k9 : PySem.W.keepIn K (.ref f9) = true)
    : ∃ fd : FuncData, (∀ (s : Shared) (u : Value), BindsTo s fd ⟨[u], []⟩ [("script", u)]) ∧ Ent K mg fns T "law" 9 fa fd ["script"] ∧ ∀ x id, fns.lookup x = some id → ∃ f fd ps, Ent K mg fns T x id f fd ps := by
  have e := hfa.symm.trans (PySem.W.mg_of X G a9)
  cases e
  refine ⟨PySem.W.fnOf "law" "law" (defArgs (top 12)) (defBody (top 12)) (defScope (top 12)) .none kV9 dc9 pm9 an9 cd9 ct9, fun s v => .of_eq rfl, ent_mk (d := d9) X G rfl s9 rfl r9 rfl (fun _ _ _ _ _ _ us hl => match us, hl with | [_], _ => rfl) (by decide +kernel) a9 l9 c9 k9, fun x id hx => ?_⟩
  have hm := PySem.mem_of_lookup hx
  simp only [fns, List.mem_cons, List.mem_nil_iff, or_false, Prod.mk.injEq] at hm
  rcases hm with ⟨rfl, rfl⟩ | ⟨rfl, rfl⟩ | ⟨rfl, rfl⟩ | ⟨rfl, rfl⟩ | ⟨rfl, rfl⟩ | ⟨rfl, rfl⟩ | ⟨rfl, rfl⟩ | ⟨rfl, rfl⟩ | ⟨rfl, rfl⟩ | ⟨rfl, rfl⟩
  · exact e0 X G a0 l0 c0 k0
  · exact e1 X G a1 l1 c1 k1
  · exact e2 X G a2 l2 c2 k2
  · exact e3 X G a3 l3 c3 k3
  · exact e4 X G a4 l4 c4 k4
  · exact e5 X G a5 l5 c5 k5
  · exact e6 X G a6 l6 c6 k6
  · exact e7 X G a7 l7 c7 k7
  · exact e8 X G a8 l8 c8 k8
  · exact e9 X G a9 l9 c9 k9

/-! ### the law, plainly -/
abbrev tK (k : List Int) : PyData := .tuple (il k)
abbrev tL (l : List (List Int)) : PyData := .tuple (l.map tK)
def opensV (l : List (List Int)) (k : List Int) : Bool := (List.range l.length).all fun i => decide (k[i]?.getD 0 ∈ l[i]?.getD [])
section
variable {wf k : Nat} {cl : CL}
theorem op_it {l : List (List Int)} {ky : List Int} (hm : l.length ≤ 1000) : evalIt cl (.r1 (.bi .len (.cons (.var 0) .nil))) [.im (tL l), .im (tK ky), .un] = some (rng1 l.length, none, [.im (tL l), .im (tK ky), .un]) := by
  have hb : bnd (l.length : Int) = true := by unfold bnd; simp only [Bool.and_eq_true, decide_eq_true_eq]; omega
  simp [evalSs, evalS.eq_1, evalS.eq_2, evalS.eq_3, evalS.eq_4, evalS.eq_5, evalS.eq_6, evalS.eq_7, evalS.eq_8, evalS.eq_9, evalS.eq_12, evalS.eq_13, evalS.eq_14, evalE.eq_1, evalE.eq_2, evalE.eq_3, evalE.eq_4, evalE.eq_5, evalE.eq_6, evalE.eq_7, evalE.eq_8, evalE.eq_9, evalE.eq_10, evalE.eq_11, evalE.eq_12, evalE.eq_13, evalE.eq_14, evalE.eq_15, evalE.eq_17, evalE.eq_18, evalE.eq_19, evalE.eq_20, evalE.eq_21, evalE.eq_22, evalE.eq_25, evalEs, evalO, evalC, evalIt, evI, evB_v, evB_cN, evB_cB, evB_cI, evB_cS, evB_bin, evB_chain, evB_neg, evB_not, evB_and, evB_or, evB_ite, evB_tup, evB_lst, evB_sli, evB_call, evB_bi, evB_birng, evB_pop, evB_isi, evB_comp, evB_comp2, evB_sset, bval_s, evVar, getS, RV.d, resB, slD, bi1, lenD, opB, op2, tst, andE, orE, asgN, asgs, asgR_d, asgR_n, asgT_n, asgT_t, asgR_t, nxO_s, seqO_nx, seqO_rt, seqO_bk, seqO_ct, okSt_un, okSt_im, okSt_mu, cellD_un, cellD_im, cellD_mu, cellD_pm, cellD_bo, setAt, appAt, revAt, augAt, augD, retE_v, retE_cN, retE_cB, retE_cI, retE_cS, retE_bin, retE_chain, retE_neg, retE_not, retE_and, retE_or, retE_ite, retE_tup, retE_lst, retE_sli, retE_call, retE_bi, retE_birng, retE_pop, retE_isi, retE_comp, retE_comp2, retE_sset, rval_s, shal_int, eqv_int, hb]
theorem shalL_i (i : Int) (ds : List PyData) : shalL (.int i) ds = true := shalL_int i ds
theorem op_elt {l : List (List Int)} {ky : List Int} (h : ky.length = l.length) {i : Nat} (hi : i < l.length) : evalE cl (.bin .inn (.bin .idx (.var 1) (.var 2)) (.bin .idx (.var 0) (.var 2))) [.im (tL l), .im (tK ky), .im (.int i)] = some (.dat (.bool (decide (ky[i]?.getD 0 ∈ l[i]?.getD []))), [.im (tL l), .im (tK ky), .im (.int i)]) := by
  have j1 : ixn l.length (i : Int) = some i := ixn_nat hi
  have j2 : ixn ky.length (i : Int) = some i := ixn_nat (by omega)
  obtain ⟨c, g1⟩ : ∃ x, l[i]? = some x := ⟨_, List.getElem?_eq_getElem hi⟩
  obtain ⟨y, g2⟩ : ∃ x, ky[i]? = some x := ⟨_, List.getElem?_eq_getElem (by omega)⟩
  have q := isIn_int y c
  have q2 := shalL_int y (c.map PyData.int)
  simp only [il] at q
  simp [evalSs, evalS.eq_1, evalS.eq_2, evalS.eq_3, evalS.eq_4, evalS.eq_5, evalS.eq_6, evalS.eq_7, evalS.eq_8, evalS.eq_9, evalS.eq_12, evalS.eq_13, evalS.eq_14, evalE.eq_1, evalE.eq_2, evalE.eq_3, evalE.eq_4, evalE.eq_5, evalE.eq_6, evalE.eq_7, evalE.eq_8, evalE.eq_9, evalE.eq_10, evalE.eq_11, evalE.eq_12, evalE.eq_13, evalE.eq_14, evalE.eq_15, evalE.eq_17, evalE.eq_18, evalE.eq_19, evalE.eq_20, evalE.eq_21, evalE.eq_22, evalE.eq_25, evalEs, evalO, evalC, evalIt, evI, evB_v, evB_cN, evB_cB, evB_cI, evB_cS, evB_bin, evB_chain, evB_neg, evB_not, evB_and, evB_or, evB_ite, evB_tup, evB_lst, evB_sli, evB_call, evB_bi, evB_birng, evB_pop, evB_isi, evB_comp, evB_comp2, evB_sset, bval_s, evVar, getS, RV.d, resB, slD, bi1, lenD, opB, op2, tst, andE, orE, asgN, asgs, asgR_d, asgR_n, asgT_n, asgT_t, asgR_t, nxO_s, seqO_nx, seqO_rt, seqO_bk, seqO_ct, okSt_un, okSt_im, okSt_mu, cellD_un, cellD_im, cellD_mu, cellD_pm, cellD_bo, setAt, appAt, revAt, augAt, augD, retE_v, retE_cN, retE_cB, retE_cI, retE_cS, retE_bin, retE_chain, retE_neg, retE_not, retE_and, retE_or, retE_ite, retE_tup, retE_lst, retE_sli, retE_call, retE_bi, retE_birng, retE_pop, retE_isi, retE_comp, retE_comp2, retE_sset, rval_s, shal_int, eqv_int, j1, j2, g1, g2, q, q2]
theorem lop_c {l : List (List Int)} {ky : List Int} (h : ky.length = l.length) {i : Nat} (hi : i < l.length) : evalC cl (.some (.bin .notin (.bin .idx (.var 1) (.var 2)) (.bin .idx (.var 0) (.var 2)))) [.im (tL l), .im (tK ky), .im (.int i)] = some (!decide (ky[i]?.getD 0 ∈ l[i]?.getD []), [.im (tL l), .im (tK ky), .im (.int i)]) := by
  have j1 : ixn l.length (i : Int) = some i := ixn_nat hi
  have j2 : ixn ky.length (i : Int) = some i := ixn_nat (by omega)
  obtain ⟨c, g1⟩ : ∃ x, l[i]? = some x := ⟨_, List.getElem?_eq_getElem hi⟩
  obtain ⟨y, g2⟩ : ∃ x, ky[i]? = some x := ⟨_, List.getElem?_eq_getElem (by omega)⟩
  have q := isIn_int y c
  have q2 := shalL_int y (c.map PyData.int)
  simp only [il] at q
  simp [evalSs, evalS.eq_1, evalS.eq_2, evalS.eq_3, evalS.eq_4, evalS.eq_5, evalS.eq_6, evalS.eq_7, evalS.eq_8, evalS.eq_9, evalS.eq_12, evalS.eq_13, evalS.eq_14, evalE.eq_1, evalE.eq_2, evalE.eq_3, evalE.eq_4, evalE.eq_5, evalE.eq_6, evalE.eq_7, evalE.eq_8, evalE.eq_9, evalE.eq_10, evalE.eq_11, evalE.eq_12, evalE.eq_13, evalE.eq_14, evalE.eq_15, evalE.eq_17, evalE.eq_18, evalE.eq_19, evalE.eq_20, evalE.eq_21, evalE.eq_22, evalE.eq_25, evalEs, evalO, evalC, evalIt, evI, evB_v, evB_cN, evB_cB, evB_cI, evB_cS, evB_bin, evB_chain, evB_neg, evB_not, evB_and, evB_or, evB_ite, evB_tup, evB_lst, evB_sli, evB_call, evB_bi, evB_birng, evB_pop, evB_isi, evB_comp, evB_comp2, evB_sset, bval_s, evVar, getS, RV.d, resB, slD, bi1, lenD, opB, op2, tst, andE, orE, asgN, asgs, asgR_d, asgR_n, asgT_n, asgT_t, asgR_t, nxO_s, seqO_nx, seqO_rt, seqO_bk, seqO_ct, okSt_un, okSt_im, okSt_mu, cellD_un, cellD_im, cellD_mu, cellD_pm, cellD_bo, setAt, appAt, revAt, augAt, augD, retE_v, retE_cN, retE_cB, retE_cI, retE_cS, retE_bin, retE_chain, retE_neg, retE_not, retE_and, retE_or, retE_ite, retE_tup, retE_lst, retE_sli, retE_call, retE_bi, retE_birng, retE_pop, retE_isi, retE_comp, retE_comp2, retE_sset, rval_s, shal_int, eqv_int, j1, j2, g1, g2, q, q2]
/-- the numbers that a test does not hold of -/
def flt (n : Nat) (c : Nat → Bool) : List PyData := (List.range n).flatMap fun i => if c i = true then [] else [PyData.int (i : Int)]
theorem flt_len (c : Nat → Bool) : ∀ n : Nat, (flt n c).length ≤ n
  | 0 => by simp [flt]
  | n + 1 => by
    have := flt_len c n
    unfold flt at *
    rw [List.range_succ, List.flatMap_append, List.length_append, List.flatMap_singleton]
    have h1 : (if c n = true then [] else [PyData.int (n : Int)]).length ≤ 1 := by split <;> simp
    omega
theorem flt_nil (n : Nat) (c : Nat → Bool) : decide (flt n c = []) = (List.range n).all c := by
  unfold flt
  rw [Bool.eq_iff_iff]
  simp only [decide_eq_true_eq, List.flatMap_eq_nil_iff, List.all_eq_true]
  refine ⟨fun h i hi => ?_, fun h i hi => by rw [if_pos (h i hi)]⟩
  have := h i hi
  cases q : c i with
  | true => rfl
  | false => rw [q] at this; simp at this
theorem op_lc {l : List (List Int)} {ky : List Int} (h : ky.length = l.length) (hm : l.length ≤ 1000) : evalE cl (.comp (.bin .inn (.bin .idx (.var 1) (.var 2)) (.bin .idx (.var 0) (.var 2))) (.name 2) (.r1 (.bi .len (.cons (.var 0) .nil))) .none [2]) [.im (tL l), .im (tK ky), .un] = some (.new ((List.range l.length).map fun i => .bool (decide (ky[i]?.getD 0 ∈ l[i]?.getD []))), [.im (tL l), .im (tK ky), .un]) := by
  have hc := comp1 (cl := cl) (elt := (.bin .inn (.bin .idx (.var 1) (.var 2)) (.bin .idx (.var 0) (.var 2)))) (c := .none) (v := 2)
    (fun d => match d with
      | .int i => [.bool (decide (ky[i.toNat]?.getD 0 ∈ l[i.toNat]?.getD []))]
      | _ => []) (op_it (cl := cl) (l := l) (ky := ky) hm) (fun z => nomatch z) (Nat.lt_succ_self 2) rfl (fun d hd => by
    obtain ⟨i, hi, rfl⟩ := mem_rng1 hd
    exact .inl ⟨_, rfl, op_elt h hi, rfl⟩) (by rw [rng1_flatMap, flatMap_one, List.length_map, List.length_range]; omega)
  rw [rng1_flatMap, flatMap_one] at hc
  exact hc
theorem op_body {l : List (List Int)} {ky : List Int} (h : ky.length = l.length) (hm : l.length ≤ 1000) : evalSs cl wf b0 [.im (tL l), .im (tK ky), .un] = some (.rt (.dat (.bool (opensV l ky))) [.im (tL l), .im (tK ky), .un]) := by
  simp [b0, b0_0, evalSs, evalS.eq_1, evalS.eq_2, evalS.eq_3, evalS.eq_4, evalS.eq_5, evalS.eq_6, evalS.eq_7, evalS.eq_8, evalS.eq_9, evalS.eq_12, evalS.eq_13, evalS.eq_14, evalE.eq_1, evalE.eq_2, evalE.eq_3, evalE.eq_4, evalE.eq_5, evalE.eq_6, evalE.eq_7, evalE.eq_8, evalE.eq_9, evalE.eq_10, evalE.eq_11, evalE.eq_12, evalE.eq_13, evalE.eq_14, evalE.eq_15, evalE.eq_17, evalE.eq_18, evalE.eq_19, evalE.eq_20, evalE.eq_21, evalE.eq_22, evalE.eq_25, evalEs, evalO, evalC, evalIt, evI, evB_v, evB_cN, evB_cB, evB_cI, evB_cS, evB_bin, evB_chain, evB_neg, evB_not, evB_and, evB_or, evB_ite, evB_tup, evB_lst, evB_sli, evB_call, evB_bi, evB_birng, evB_pop, evB_isi, evB_comp, evB_comp2, evB_sset, bval_s, evVar, getS, RV.d, resB, slD, bi1, lenD, opB, op2, tst, andE, orE, asgN, asgs, asgR_d, asgR_n, asgT_n, asgT_t, asgR_t, nxO_s, seqO_nx, seqO_rt, seqO_bk, seqO_ct, okSt_un, okSt_im, okSt_mu, cellD_un, cellD_im, cellD_mu, cellD_pm, cellD_bo, setAt, appAt, revAt, augAt, augD, retE_v, retE_cN, retE_cB, retE_cI, retE_cS, retE_bin, retE_chain, retE_neg, retE_not, retE_and, retE_or, retE_ite, retE_tup, retE_lst, retE_sli, retE_call, retE_bi, retE_birng, retE_pop, retE_isi, retE_comp, retE_comp2, retE_sset, rval_s, shal_int, eqv_int, op_lc h hm, blsOf_map, opensV]
theorem op_ok {l : List (List Int)} {ky : List Int} (h : ky.length = l.length) (hm : l.length ≤ 1000) : callAt T wf (k + 1) 0 [.im (tL l), .im (tK ky)] = some (.dat (.bool (opensV l ky)), []) :=
  run_eq (d := d0) (b := b0) (e0 := [.im (tL l), .im (tK ky), .un]) rfl rfl rfl rfl (op_body h hm) rfl
theorem lop_lc {l : List (List Int)} {ky : List Int} (h : ky.length = l.length) (hm : l.length ≤ 1000) : evalE cl (.comp (.var 2) (.name 2) (.r1 (.bi .len (.cons (.var 0) .nil))) (.some (.bin .notin (.bin .idx (.var 1) (.var 2)) (.bin .idx (.var 0) (.var 2)))) [2]) [.im (tL l), .im (tK ky), .un] = some (.new (flt l.length fun i => decide (ky[i]?.getD 0 ∈ l[i]?.getD [])), [.im (tL l), .im (tK ky), .un]) := by
  have hc := comp1 (cl := cl) (elt := .var 2) (c := .some (.bin .notin (.bin .idx (.var 1) (.var 2)) (.bin .idx (.var 0) (.var 2)))) (v := 2)
    (fun d => match d with
      | .int i => if decide (ky[i.toNat]?.getD 0 ∈ l[i.toNat]?.getD []) = true then [] else [.int i]
      | _ => []) (op_it (cl := cl) (l := l) (ky := ky) hm) (fun z => nomatch z) (Nat.lt_succ_self 2) rfl (fun d hd => by
    obtain ⟨i, hi, rfl⟩ := mem_rng1 hd
    have q := lop_c (cl := cl) h hi
    cases hq : decide (ky[i]?.getD 0 ∈ l[i]?.getD []) with
    | true =>
      rw [hq] at q
      refine .inr ⟨q, ?_⟩
      show (if decide (ky[i]?.getD 0 ∈ l[i]?.getD []) = true then [] else _) = _
      rw [hq, if_pos rfl]
    | false =>
      rw [hq] at q
      refine .inl ⟨.dat (.int i), q, by simp [lockE, evalSs, evalS.eq_1, evalS.eq_2, evalS.eq_3, evalS.eq_4, evalS.eq_5, evalS.eq_6, evalS.eq_7, evalS.eq_8, evalS.eq_9, evalS.eq_12, evalS.eq_13, evalS.eq_14, evalE.eq_1, evalE.eq_2, evalE.eq_3, evalE.eq_4, evalE.eq_5, evalE.eq_6, evalE.eq_7, evalE.eq_8, evalE.eq_9, evalE.eq_10, evalE.eq_11, evalE.eq_12, evalE.eq_13, evalE.eq_14, evalE.eq_15, evalE.eq_17, evalE.eq_18, evalE.eq_19, evalE.eq_20, evalE.eq_21, evalE.eq_22, evalE.eq_25, evalEs, evalO, evalC, evalIt, evI, evB_v, evB_cN, evB_cB, evB_cI, evB_cS, evB_bin, evB_chain, evB_neg, evB_not, evB_and, evB_or, evB_ite, evB_tup, evB_lst, evB_sli, evB_call, evB_bi, evB_birng, evB_pop, evB_isi, evB_comp, evB_comp2, evB_sset, bval_s, evVar, getS, RV.d, resB, slD, bi1, lenD, opB, op2, tst, andE, orE, asgN, asgs, asgR_d, asgR_n, asgT_n, asgT_t, asgR_t, nxO_s, seqO_nx, seqO_rt, seqO_bk, seqO_ct, okSt_un, okSt_im, okSt_mu, cellD_un, cellD_im, cellD_mu, cellD_pm, cellD_bo, setAt, appAt, revAt, augAt, augD, retE_v, retE_cN, retE_cB, retE_cI, retE_cS, retE_bin, retE_chain, retE_neg, retE_not, retE_and, retE_or, retE_ite, retE_tup, retE_lst, retE_sli, retE_call, retE_bi, retE_birng, retE_pop, retE_isi, retE_comp, retE_comp2, retE_sset, rval_s, shal_int, eqv_int], ?_⟩
      show (if decide (ky[i]?.getD 0 ∈ l[i]?.getD []) = true then [] else _) = _
      rw [hq, if_neg (by decide)]
      rfl) (by
        rw [rng1_flatMap]
        have := flt_len (fun i => decide (ky[i]?.getD 0 ∈ l[i]?.getD [])) l.length
        unfold flt at this
        exact Nat.le_trans this (by omega))
  rw [rng1_flatMap] at hc
  exact hc
theorem lop_body {l : List (List Int)} {ky : List Int} (h : ky.length = l.length) (hm : l.length ≤ 1000) : evalSs cl wf b4 [.im (tL l), .im (tK ky), .un] = some (.rt (.dat (.bool (opensV l ky))) [.im (tL l), .im (tK ky), .un]) := by
  have q := flt_nil l.length fun i => decide (ky[i]?.getD 0 ∈ l[i]?.getD [])
  rw [opensV, ← q]
  simp [b4, b4_0, evalSs, evalS.eq_1, evalS.eq_2, evalS.eq_3, evalS.eq_4, evalS.eq_5, evalS.eq_6, evalS.eq_7, evalS.eq_8, evalS.eq_9, evalS.eq_12, evalS.eq_13, evalS.eq_14, evalE.eq_1, evalE.eq_2, evalE.eq_3, evalE.eq_4, evalE.eq_5, evalE.eq_6, evalE.eq_7, evalE.eq_8, evalE.eq_9, evalE.eq_10, evalE.eq_11, evalE.eq_12, evalE.eq_13, evalE.eq_14, evalE.eq_15, evalE.eq_17, evalE.eq_18, evalE.eq_19, evalE.eq_20, evalE.eq_21, evalE.eq_22, evalE.eq_25, evalEs, evalO, evalC, evalIt, evI, evB_v, evB_cN, evB_cB, evB_cI, evB_cS, evB_bin, evB_chain, evB_neg, evB_not, evB_and, evB_or, evB_ite, evB_tup, evB_lst, evB_sli, evB_call, evB_bi, evB_birng, evB_pop, evB_isi, evB_comp, evB_comp2, evB_sset, bval_s, evVar, getS, RV.d, resB, slD, bi1, lenD, opB, op2, tst, andE, orE, asgN, asgs, asgR_d, asgR_n, asgT_n, asgT_t, asgR_t, nxO_s, seqO_nx, seqO_rt, seqO_bk, seqO_ct, okSt_un, okSt_im, okSt_mu, cellD_un, cellD_im, cellD_mu, cellD_pm, cellD_bo, setAt, appAt, revAt, augAt, augD, retE_v, retE_cN, retE_cB, retE_cI, retE_cS, retE_bin, retE_chain, retE_neg, retE_not, retE_and, retE_or, retE_ite, retE_tup, retE_lst, retE_sli, retE_call, retE_bi, retE_birng, retE_pop, retE_isi, retE_comp, retE_comp2, retE_sset, rval_s, shal_int, eqv_int, lop_lc h hm]
theorem lop_ok {l : List (List Int)} {ky : List Int} (h : ky.length = l.length) (hm : l.length ≤ 1000) : callAt T wf (k + 1) 4 [.im (tL l), .im (tK ky)] = some (.dat (.bool (opensV l ky)), []) :=
  run_eq (d := d4) (b := b4) (e0 := [.im (tL l), .im (tK ky), .un]) rfl rfl rfl rfl (lop_body h hm) rfl
def sureV (ls : List (List (List Int))) (ky : List Int) : Str := if ls.all (fun l => opensV l ky) = true then "yes" else if ls.any (fun l => opensV l ky) = true then "perhaps" else "no"
theorem any_il (f : List (List Int) → Bool) (ls : List (List (List Int))) : (ls.map f).any id = ls.any f := by rw [List.any_map]; rfl
theorem all_il (f : List (List Int) → Bool) (ls : List (List (List Int))) : (ls.map f).all id = ls.all f := by rw [List.all_map]; rfl
theorem sure_lc {ls : List (List (List Int))} {ky : List Int} (m0 : cl.md 0 = [false, false]) (ho : ∀ l, ky.length = l.length → l.length ≤ 1000 → cl.run 0 [.im (tL l), .im (tK ky)] = some (.dat (.bool (opensV l ky)), [])) (h : ∀ l ∈ ls, ky.length = l.length) (hk : ky.length ≤ 1000) (hl : ls.length ≤ 1000) :
    evalE cl (.comp (.call 0 (.cons (.var 3) (.cons (.var 1) .nil))) (.name 3) (.e (.var 0)) .none [3]) [.im (.tuple (ls.map tL)), .im (tK ky), .un, .un] = some (.new (ls.map fun l => .bool (opensV l ky)), [.im (.tuple (ls.map tL)), .im (tK ky), .un, .un]) := by
  obtain ⟨rs, s, h1, h2⟩ := comp1S (α := Unit) (cl := cl) (elt := .call 0 (.cons (.var 3) (.cons (.var 1) .nil))) (it := .e (.var 0)) (c := .none) (v := 3) (env := [.im (.tuple (ls.map tL)), .im (tK ky), .un, .un]) (e1 := [.im (.tuple (ls.map tL)), .im (tK ky), .un, .un]) (ds := ls.map tL) (b := none) (fun _ => [.im (.tuple (ls.map tL)), .im (tK ky), .un, .un]) (fun i acc _ => acc = (ls.take i).map fun l => .bool (opensV l ky)) ()
    (by simp [evalSs, evalS.eq_1, evalS.eq_2, evalS.eq_3, evalS.eq_4, evalS.eq_5, evalS.eq_6, evalS.eq_7, evalS.eq_8, evalS.eq_9, evalS.eq_12, evalS.eq_13, evalS.eq_14, evalE.eq_1, evalE.eq_2, evalE.eq_3, evalE.eq_4, evalE.eq_5, evalE.eq_6, evalE.eq_7, evalE.eq_8, evalE.eq_9, evalE.eq_10, evalE.eq_11, evalE.eq_12, evalE.eq_13, evalE.eq_14, evalE.eq_15, evalE.eq_17, evalE.eq_18, evalE.eq_19, evalE.eq_20, evalE.eq_21, evalE.eq_22, evalE.eq_25, evalEs, evalO, evalC, evalIt, evI, evB_v, evB_cN, evB_cB, evB_cI, evB_cS, evB_bin, evB_chain, evB_neg, evB_not, evB_and, evB_or, evB_ite, evB_tup, evB_lst, evB_sli, evB_call, evB_bi, evB_birng, evB_pop, evB_isi, evB_comp, evB_comp2, evB_sset, bval_s, evVar, getS, RV.d, resB, slD, bi1, lenD, opB, op2, tst, andE, orE, asgN, asgs, asgR_d, asgR_n, asgT_n, asgT_t, asgR_t, nxO_s, seqO_nx, seqO_rt, seqO_bk, seqO_ct, okSt_un, okSt_im, okSt_mu, cellD_un, cellD_im, cellD_mu, cellD_pm, cellD_bo, setAt, appAt, revAt, augAt, augD, retE_v, retE_cN, retE_cB, retE_cI, retE_cS, retE_bin, retE_chain, retE_neg, retE_not, retE_and, retE_or, retE_ite, retE_tup, retE_lst, retE_sli, retE_call, retE_bi, retE_birng, retE_pop, retE_isi, retE_comp, retE_comp2, retE_sset, rval_s, shal_int, eqv_int]) (fun z => nomatch z) rfl (Nat.lt_succ_self 3) (fun _ => rfl) rfl (fun _ => rfl) (by simp) (fun i d acc _ hd ha => by
      rw [List.getElem?_map] at hd
      obtain ⟨l, hl1, rfl⟩ := map_some hd
      have hm := List.mem_of_getElem? hl1
      have q := ho l (h l hm) (by rw [← h l hm]; exact hk)
      refine ⟨(), .inl ⟨.dat (.bool (opensV l ky)), (), rfl, by simp [evalE.eq_16, evalA, evAV_v, evAV_cN, evAV_cB, evAV_cI, evAV_cS, evAV_bin, evAV_chain, evAV_neg, evAV_not, evAV_and, evAV_or, evAV_ite, evAV_tup, evAV_lst, evAV_sli, evAV_call, evAV_bi, evAV_birng, evAV_pop, evAV_isi, evAV_comp, evAV_comp2, evAV_sset, aval_s, callE, cellsA, borsA, cargs, setCs, setC, nodupB, evalSs, evalS.eq_1, evalS.eq_2, evalS.eq_3, evalS.eq_4, evalS.eq_5, evalS.eq_6, evalS.eq_7, evalS.eq_8, evalS.eq_9, evalS.eq_12, evalS.eq_13, evalS.eq_14, evalE.eq_1, evalE.eq_2, evalE.eq_3, evalE.eq_4, evalE.eq_5, evalE.eq_6, evalE.eq_7, evalE.eq_8, evalE.eq_9, evalE.eq_10, evalE.eq_11, evalE.eq_12, evalE.eq_13, evalE.eq_14, evalE.eq_15, evalE.eq_17, evalE.eq_18, evalE.eq_19, evalE.eq_20, evalE.eq_21, evalE.eq_22, evalE.eq_25, evalEs, evalO, evalC, evalIt, evI, evB_v, evB_cN, evB_cB, evB_cI, evB_cS, evB_bin, evB_chain, evB_neg, evB_not, evB_and, evB_or, evB_ite, evB_tup, evB_lst, evB_sli, evB_call, evB_bi, evB_birng, evB_pop, evB_isi, evB_comp, evB_comp2, evB_sset, bval_s, evVar, getS, RV.d, resB, slD, bi1, lenD, opB, op2, tst, andE, orE, asgN, asgs, asgR_d, asgR_n, asgT_n, asgT_t, asgR_t, nxO_s, seqO_nx, seqO_rt, seqO_bk, seqO_ct, okSt_un, okSt_im, okSt_mu, cellD_un, cellD_im, cellD_mu, cellD_pm, cellD_bo, setAt, appAt, revAt, augAt, augD, retE_v, retE_cN, retE_cB, retE_cI, retE_cS, retE_bin, retE_chain, retE_neg, retE_not, retE_and, retE_or, retE_ite, retE_tup, retE_lst, retE_sli, retE_call, retE_bi, retE_birng, retE_pop, retE_isi, retE_comp, retE_comp2, retE_sset, rval_s, shal_int, eqv_int, m0, q], ?_⟩⟩
      rw [ha, List.take_add_one, hl1]
      simp [RV.d]) (fun rs _ hr => by rw [hr]; simp; omega)
  rw [h1, h2]
  simp [openE]
theorem if_t {c : E} {a b : Ss} {env e1 : NEnv} (h : tst (evalE cl c) env = some (true, e1)) : evalS cl wf (.iff c a b) env = evalSs cl wf a e1 := by
  rw [evalS, h]
theorem if_f {c : E} {a b : Ss} {env e1 : NEnv} (h : tst (evalE cl c) env = some (false, e1)) : evalS cl wf (.iff c a b) env = evalSs cl wf b e1 := by
  rw [evalS, h]
theorem ite_t {c a b : E} {env e1 : NEnv} (h : tst (evalE cl c) env = some (true, e1)) : evalE cl (.ite c a b) env = evalE cl a e1 := by
  rw [evalE, h]
theorem ite_f {c a b : E} {env e1 : NEnv} (h : tst (evalE cl c) env = some (false, e1)) : evalE cl (.ite c a b) env = evalE cl b e1 := by
  rw [evalE, h]
theorem t_all {bs : List Bool} {env : NEnv} {i : Nat} {ds : List PyData} (h : getS env i = .mu ds) (hb : blsOf ds = some bs) : tst (evalE cl (.bi .all (.cons (.var i) .nil))) env = some (bs.all id, env) := by
  simp only [tst, evalE.eq_17, evB_v, h, resB, slD, bi1, hb]
  rfl
theorem t_any {bs : List Bool} {env : NEnv} {i : Nat} {ds : List PyData} (h : getS env i = .mu ds) (hb : blsOf ds = some bs) : tst (evalE cl (.bi .any (.cons (.var i) .nil))) env = some (bs.any id, env) := by
  simp only [tst, evalE.eq_17, evB_v, h, resB, slD, bi1, hb]
  rfl
theorem str_ok {s : Str} {env : NEnv} (h : (decide (s.length ≤ 16777216) && PyData.strOk s) = true) : evalE cl (.cS s) env = some (.dat (.str s), env) := by
  rw [evalE]
  simp only [Bool.and_eq_true, decide_eq_true_eq] at h
  rw [if_pos (by simp [h])]
theorem ok_yes : (decide (Str.length "yes" ≤ 16777216) && PyData.strOk "yes") = true := by decide +kernel
theorem ok_per : (decide (Str.length "perhaps" ≤ 16777216) && PyData.strOk "perhaps") = true := by decide +kernel
theorem ok_no : (decide (Str.length "no" ≤ 16777216) && PyData.strOk "no") = true := by decide +kernel
theorem sure_body {ls : List (List (List Int))} {ky : List Int} (m0 : cl.md 0 = [false, false]) (ho : ∀ l, ky.length = l.length → l.length ≤ 1000 → cl.run 0 [.im (tL l), .im (tK ky)] = some (.dat (.bool (opensV l ky)), [])) (h : ∀ l ∈ ls, ky.length = l.length) (hk : ky.length ≤ 1000) (hl : ls.length ≤ 1000) :
    evalSs cl wf b1 [.im (.tuple (ls.map tL)), .im (tK ky), .un, .un] = some (.rt (.dat (.str (sureV ls ky))) [.im (.tuple (ls.map tL)), .im (tK ky), .mu (ls.map fun l => .bool (opensV l ky)), .un]) := by
  have q := sure_lc m0 ho h hk hl
  have b1' := blsOf_map (fun l => opensV l ky) ls
  have ta := t_all (cl := cl) (i := 2) (env := [.im (.tuple (ls.map tL)), .im (tK ky), .mu (ls.map fun l => .bool (opensV l ky)), .un]) rfl b1'
  have tn := t_any (cl := cl) (i := 2) (env := [.im (.tuple (ls.map tL)), .im (tK ky), .mu (ls.map fun l => .bool (opensV l ky)), .un]) rfl b1'
  rw [all_il] at ta
  rw [any_il] at tn
  unfold sureV
  rw [b1, ss_cons_nx (e := [.im (.tuple (ls.map tL)), .im (tK ky), .mu (ls.map fun l => .bool (opensV l ky)), .un]) (by simp [b1_0, evalSs, evalS.eq_1, evalS.eq_2, evalS.eq_3, evalS.eq_4, evalS.eq_5, evalS.eq_6, evalS.eq_7, evalS.eq_8, evalS.eq_9, evalS.eq_12, evalS.eq_13, evalS.eq_14, evalE.eq_1, evalE.eq_2, evalE.eq_3, evalE.eq_4, evalE.eq_5, evalE.eq_6, evalE.eq_7, evalE.eq_8, evalE.eq_9, evalE.eq_10, evalE.eq_11, evalE.eq_12, evalE.eq_13, evalE.eq_14, evalE.eq_15, evalE.eq_17, evalE.eq_18, evalE.eq_19, evalE.eq_20, evalE.eq_21, evalE.eq_22, evalE.eq_25, evalEs, evalO, evalC, evalIt, evI, evB_v, evB_cN, evB_cB, evB_cI, evB_cS, evB_bin, evB_chain, evB_neg, evB_not, evB_and, evB_or, evB_ite, evB_tup, evB_lst, evB_sli, evB_call, evB_bi, evB_birng, evB_pop, evB_isi, evB_comp, evB_comp2, evB_sset, bval_s, evVar, getS, RV.d, resB, slD, bi1, lenD, opB, op2, tst, andE, orE, asgN, asgs, asgR_d, asgR_n, asgT_n, asgT_t, asgR_t, nxO_s, seqO_nx, seqO_rt, seqO_bk, seqO_ct, okSt_un, okSt_im, okSt_mu, cellD_un, cellD_im, cellD_mu, cellD_pm, cellD_bo, setAt, appAt, revAt, augAt, augD, retE_v, retE_cN, retE_cB, retE_cI, retE_cS, retE_bin, retE_chain, retE_neg, retE_not, retE_and, retE_or, retE_ite, retE_tup, retE_lst, retE_sli, retE_call, retE_bi, retE_birng, retE_pop, retE_isi, retE_comp, retE_comp2, retE_sset, rval_s, shal_int, eqv_int, q])]
  cases c1 : ls.all (fun l => opensV l ky) with
  | true =>
    rw [c1] at ta
    rw [if_pos rfl, ss_cons_rt (by rw [b1_1, if_t ta, evalSs, evalS, retE_cS, str_ok ok_yes]; rfl)]
  | false =>
    rw [c1] at ta
    rw [if_neg (by decide), ss_cons_nx (e := [.im (.tuple (ls.map tL)), .im (tK ky), .mu (ls.map fun l => .bool (opensV l ky)), .un]) (by rw [b1_1, if_f ta, evalSs])]
    cases c2 : ls.any (fun l => opensV l ky) with
    | true =>
      rw [c2] at tn
      rw [if_pos rfl, ss_cons_rt (by rw [b1_2, evalS, retE_ite, ite_t tn, str_ok ok_per]; rfl)]
    | false =>
      rw [c2] at tn
      rw [if_neg (by decide), ss_cons_rt (by rw [b1_2, evalS, retE_ite, ite_f tn, str_ok ok_no]; rfl)]
theorem sure_ok {ls : List (List (List Int))} {ky : List Int} (h : ∀ l ∈ ls, ky.length = l.length) (hk : ky.length ≤ 1000) (hl : ls.length ≤ 1000) : callAt T wf (k + 2) 1 [.im (.tuple (ls.map tL)), .im (tK ky)] = some (.dat (.str (sureV ls ky)), []) :=
  run_eq (d := d1) (b := b1) (e0 := [.im (.tuple (ls.map tL)), .im (tK ky), .un, .un]) rfl rfl rfl rfl (sure_body rfl (fun l h1 h2 => by rw [clAt_run]; exact op_ok h1 h2) h hk hl) rfl
theorem eqv_str (a b : Str) : PyData.eqv (.str a) (.str b) = decide (a = b) := by
  unfold PyData.eqv
  rfl
theorem shal_str (a : Str) (d : PyData) : shal d (.str a) = true := by
  unfold shal
  simp [PyData.depth]
theorem len_pos {α : Type} {l : List α} (h : l ≠ []) : 0 < l.length := Nat.pos_of_ne_zero fun z => h (List.eq_nil_of_length_eq_zero z)
def cntV (ls : List (List (List Int))) (ky : List Int) : Nat := (ls.filter fun l => opensV l ky).length
def dueV (ls : List (List (List Int))) (ky : List Int) : Str := if cntV ls ky = 0 then "no" else if cntV ls ky = ls.length then "yes" else "perhaps"
theorem due_sure {ls : List (List (List Int))} {ky : List Int} (hne : ls ≠ []) : sureV ls ky = dueV ls ky := by
  unfold sureV dueV cntV
  have hl : 0 < ls.length := len_pos hne
  by_cases c1 : ls.all (fun l => opensV l ky) = true
  · have e : ls.filter (fun l => opensV l ky) = ls := List.filter_eq_self.mpr (List.all_eq_true.mp c1)
    rw [if_pos c1, e, if_neg (by omega), if_pos rfl]
  · have n : (ls.filter fun l => opensV l ky).length ≠ ls.length := fun e => c1 (List.all_eq_true.mpr (List.filter_eq_self.mp ((List.filter_sublist (l := ls)).eq_of_length e)))
    rw [if_neg c1]
    by_cases c2 : ls.any (fun l => opensV l ky) = true
    · obtain ⟨x, hx, hp⟩ := List.any_eq_true.mp c2
      have : x ∈ ls.filter fun l => opensV l ky := List.mem_filter.mpr ⟨hx, hp⟩
      have := List.length_pos_of_mem this
      rw [if_pos c2, if_neg (by omega), if_neg n]
    · have e : ls.filter (fun l => opensV l ky) = [] := List.filter_eq_nil_iff.mpr fun x hx hp => c2 (List.any_eq_true.mpr ⟨x, hx, hp⟩)
      rw [if_neg c2, e]
      simp
theorem says_lc {ls : List (List (List Int))} {ky : List Int} (m4 : cl.md 4 = [false, false]) (ho : ∀ l, ky.length = l.length → l.length ≤ 1000 → cl.run 4 [.im (tL l), .im (tK ky)] = some (.dat (.bool (opensV l ky)), [])) (h : ∀ l ∈ ls, ky.length = l.length) (hk : ky.length ≤ 1000) (hl : ls.length ≤ 1000) :
    evalE cl (.comp (.var 3) (.name 3) (.e (.var 0)) (.some (.call 4 (.cons (.var 3) (.cons (.var 1) .nil)))) [3]) [.im (.tuple (ls.map tL)), .im (tK ky), .un, .un, .un, .un] = some (.new ((ls.filter fun l => opensV l ky).map tL), [.im (.tuple (ls.map tL)), .im (tK ky), .un, .un, .un, .un]) := by
  obtain ⟨rs, s, h1, h2⟩ := comp1S (α := Unit) (cl := cl) (elt := .var 3) (it := .e (.var 0)) (c := .some (.call 4 (.cons (.var 3) (.cons (.var 1) .nil)))) (v := 3) (env := [.im (.tuple (ls.map tL)), .im (tK ky), .un, .un, .un, .un]) (e1 := [.im (.tuple (ls.map tL)), .im (tK ky), .un, .un, .un, .un]) (ds := ls.map tL) (b := none) (fun _ => [.im (.tuple (ls.map tL)), .im (tK ky), .un, .un, .un, .un]) (fun i acc _ => acc = ((ls.take i).filter fun l => opensV l ky).map tL) ()
    (by simp [evalSs, evalS.eq_1, evalS.eq_2, evalS.eq_3, evalS.eq_4, evalS.eq_5, evalS.eq_6, evalS.eq_7, evalS.eq_8, evalS.eq_9, evalS.eq_12, evalS.eq_13, evalS.eq_14, evalE.eq_1, evalE.eq_2, evalE.eq_3, evalE.eq_4, evalE.eq_5, evalE.eq_6, evalE.eq_7, evalE.eq_8, evalE.eq_9, evalE.eq_10, evalE.eq_11, evalE.eq_12, evalE.eq_13, evalE.eq_14, evalE.eq_15, evalE.eq_17, evalE.eq_18, evalE.eq_19, evalE.eq_20, evalE.eq_21, evalE.eq_22, evalE.eq_25, evalEs, evalO, evalC, evalIt, evI, evB_v, evB_cN, evB_cB, evB_cI, evB_cS, evB_bin, evB_chain, evB_neg, evB_not, evB_and, evB_or, evB_ite, evB_tup, evB_lst, evB_sli, evB_call, evB_bi, evB_birng, evB_pop, evB_isi, evB_comp, evB_comp2, evB_sset, bval_s, evVar, getS, RV.d, resB, slD, bi1, lenD, opB, op2, tst, andE, orE, asgN, asgs, asgR_d, asgR_n, asgT_n, asgT_t, asgR_t, nxO_s, seqO_nx, seqO_rt, seqO_bk, seqO_ct, okSt_un, okSt_im, okSt_mu, cellD_un, cellD_im, cellD_mu, cellD_pm, cellD_bo, setAt, appAt, revAt, augAt, augD, retE_v, retE_cN, retE_cB, retE_cI, retE_cS, retE_bin, retE_chain, retE_neg, retE_not, retE_and, retE_or, retE_ite, retE_tup, retE_lst, retE_sli, retE_call, retE_bi, retE_birng, retE_pop, retE_isi, retE_comp, retE_comp2, retE_sset, rval_s, shal_int, eqv_int]) (fun z => nomatch z) rfl (by simp) (fun _ => rfl) rfl (fun _ => rfl) (by simp) (fun i d acc _ hd ha => by
      rw [List.getElem?_map] at hd
      obtain ⟨l, hl1, rfl⟩ := map_some hd
      have hm := List.mem_of_getElem? hl1
      have q := ho l (h l hm) (by rw [← h l hm]; exact hk)
      refine ⟨(), ?_⟩
      cases c : opensV l ky with
      | true =>
        rw [c] at q
        refine .inl ⟨.dat (tL l), (), by simp [evalE.eq_16, evalA, evAV_v, evAV_cN, evAV_cB, evAV_cI, evAV_cS, evAV_bin, evAV_chain, evAV_neg, evAV_not, evAV_and, evAV_or, evAV_ite, evAV_tup, evAV_lst, evAV_sli, evAV_call, evAV_bi, evAV_birng, evAV_pop, evAV_isi, evAV_comp, evAV_comp2, evAV_sset, aval_s, callE, cellsA, borsA, cargs, setCs, setC, nodupB, evalSs, evalS.eq_1, evalS.eq_2, evalS.eq_3, evalS.eq_4, evalS.eq_5, evalS.eq_6, evalS.eq_7, evalS.eq_8, evalS.eq_9, evalS.eq_12, evalS.eq_13, evalS.eq_14, evalE.eq_1, evalE.eq_2, evalE.eq_3, evalE.eq_4, evalE.eq_5, evalE.eq_6, evalE.eq_7, evalE.eq_8, evalE.eq_9, evalE.eq_10, evalE.eq_11, evalE.eq_12, evalE.eq_13, evalE.eq_14, evalE.eq_15, evalE.eq_17, evalE.eq_18, evalE.eq_19, evalE.eq_20, evalE.eq_21, evalE.eq_22, evalE.eq_25, evalEs, evalO, evalC, evalIt, evI, evB_v, evB_cN, evB_cB, evB_cI, evB_cS, evB_bin, evB_chain, evB_neg, evB_not, evB_and, evB_or, evB_ite, evB_tup, evB_lst, evB_sli, evB_call, evB_bi, evB_birng, evB_pop, evB_isi, evB_comp, evB_comp2, evB_sset, bval_s, evVar, getS, RV.d, resB, slD, bi1, lenD, opB, op2, tst, andE, orE, asgN, asgs, asgR_d, asgR_n, asgT_n, asgT_t, asgR_t, nxO_s, seqO_nx, seqO_rt, seqO_bk, seqO_ct, okSt_un, okSt_im, okSt_mu, cellD_un, cellD_im, cellD_mu, cellD_pm, cellD_bo, setAt, appAt, revAt, augAt, augD, retE_v, retE_cN, retE_cB, retE_cI, retE_cS, retE_bin, retE_chain, retE_neg, retE_not, retE_and, retE_or, retE_ite, retE_tup, retE_lst, retE_sli, retE_call, retE_bi, retE_birng, retE_pop, retE_isi, retE_comp, retE_comp2, retE_sset, rval_s, shal_int, eqv_int, m4, q], by simp [evalSs, evalS.eq_1, evalS.eq_2, evalS.eq_3, evalS.eq_4, evalS.eq_5, evalS.eq_6, evalS.eq_7, evalS.eq_8, evalS.eq_9, evalS.eq_12, evalS.eq_13, evalS.eq_14, evalE.eq_1, evalE.eq_2, evalE.eq_3, evalE.eq_4, evalE.eq_5, evalE.eq_6, evalE.eq_7, evalE.eq_8, evalE.eq_9, evalE.eq_10, evalE.eq_11, evalE.eq_12, evalE.eq_13, evalE.eq_14, evalE.eq_15, evalE.eq_17, evalE.eq_18, evalE.eq_19, evalE.eq_20, evalE.eq_21, evalE.eq_22, evalE.eq_25, evalEs, evalO, evalC, evalIt, evI, evB_v, evB_cN, evB_cB, evB_cI, evB_cS, evB_bin, evB_chain, evB_neg, evB_not, evB_and, evB_or, evB_ite, evB_tup, evB_lst, evB_sli, evB_call, evB_bi, evB_birng, evB_pop, evB_isi, evB_comp, evB_comp2, evB_sset, bval_s, evVar, getS, RV.d, resB, slD, bi1, lenD, opB, op2, tst, andE, orE, asgN, asgs, asgR_d, asgR_n, asgT_n, asgT_t, asgR_t, nxO_s, seqO_nx, seqO_rt, seqO_bk, seqO_ct, okSt_un, okSt_im, okSt_mu, cellD_un, cellD_im, cellD_mu, cellD_pm, cellD_bo, setAt, appAt, revAt, augAt, augD, retE_v, retE_cN, retE_cB, retE_cI, retE_cS, retE_bin, retE_chain, retE_neg, retE_not, retE_and, retE_or, retE_ite, retE_tup, retE_lst, retE_sli, retE_call, retE_bi, retE_birng, retE_pop, retE_isi, retE_comp, retE_comp2, retE_sset, rval_s, shal_int, eqv_int], ?_⟩
        rw [ha, List.take_add_one, hl1]
        simp [RV.d, c]
      | false =>
        rw [c] at q
        refine .inr ⟨by simp [evalE.eq_16, evalA, evAV_v, evAV_cN, evAV_cB, evAV_cI, evAV_cS, evAV_bin, evAV_chain, evAV_neg, evAV_not, evAV_and, evAV_or, evAV_ite, evAV_tup, evAV_lst, evAV_sli, evAV_call, evAV_bi, evAV_birng, evAV_pop, evAV_isi, evAV_comp, evAV_comp2, evAV_sset, aval_s, callE, cellsA, borsA, cargs, setCs, setC, nodupB, evalSs, evalS.eq_1, evalS.eq_2, evalS.eq_3, evalS.eq_4, evalS.eq_5, evalS.eq_6, evalS.eq_7, evalS.eq_8, evalS.eq_9, evalS.eq_12, evalS.eq_13, evalS.eq_14, evalE.eq_1, evalE.eq_2, evalE.eq_3, evalE.eq_4, evalE.eq_5, evalE.eq_6, evalE.eq_7, evalE.eq_8, evalE.eq_9, evalE.eq_10, evalE.eq_11, evalE.eq_12, evalE.eq_13, evalE.eq_14, evalE.eq_15, evalE.eq_17, evalE.eq_18, evalE.eq_19, evalE.eq_20, evalE.eq_21, evalE.eq_22, evalE.eq_25, evalEs, evalO, evalC, evalIt, evI, evB_v, evB_cN, evB_cB, evB_cI, evB_cS, evB_bin, evB_chain, evB_neg, evB_not, evB_and, evB_or, evB_ite, evB_tup, evB_lst, evB_sli, evB_call, evB_bi, evB_birng, evB_pop, evB_isi, evB_comp, evB_comp2, evB_sset, bval_s, evVar, getS, RV.d, resB, slD, bi1, lenD, opB, op2, tst, andE, orE, asgN, asgs, asgR_d, asgR_n, asgT_n, asgT_t, asgR_t, nxO_s, seqO_nx, seqO_rt, seqO_bk, seqO_ct, okSt_un, okSt_im, okSt_mu, cellD_un, cellD_im, cellD_mu, cellD_pm, cellD_bo, setAt, appAt, revAt, augAt, augD, retE_v, retE_cN, retE_cB, retE_cI, retE_cS, retE_bin, retE_chain, retE_neg, retE_not, retE_and, retE_or, retE_ite, retE_tup, retE_lst, retE_sli, retE_call, retE_bi, retE_birng, retE_pop, retE_isi, retE_comp, retE_comp2, retE_sset, rval_s, shal_int, eqv_int, m4, q], ?_⟩
        rw [ha, List.take_add_one, hl1]
        simp [c]) (fun rs _ hr => by
          rw [hr, List.length_map]
          exact Nat.le_trans (List.length_filter_le _ _) (by rw [List.length_take]; omega))
  rw [h1, h2]
  simp [openE]
theorem says_body {ls : List (List (List Int))} {ky : List Int} (m1 : cl.md 1 = [false, false]) (m4 : cl.md 4 = [false, false]) (ho : ∀ l, ky.length = l.length → l.length ≤ 1000 → cl.run 4 [.im (tL l), .im (tK ky)] = some (.dat (.bool (opensV l ky)), []))
    (hs : cl.run 1 [.im (.tuple (ls.map tL)), .im (tK ky)] = some (.dat (.str (sureV ls ky)), [])) (h : ∀ l ∈ ls, ky.length = l.length) (hk : ky.length ≤ 1000) (hl : ls.length ≤ 1000) (hne : ls ≠ []) :
    evalSs cl wf b8 [.im (.tuple (ls.map tL)), .im (tK ky), .un, .un, .un, .un] = some (.rt (.dat (.bool true)) [.im (.tuple (ls.map tL)), .im (tK ky), .im (.int (cntV ls ky)), .un, .im (.str (dueV ls ky)), .im (.str (sureV ls ky))]) := by
  have q := says_lc m4 ho h hk hl
  have hd := due_sure (ky := ky) hne
  have hpos : 0 < ls.length := len_pos hne
  rw [b8, ss_cons_nx (e := [.im (.tuple (ls.map tL)), .im (tK ky), .im (.int (cntV ls ky)), .un, .un, .un]) (by simp [b8_0, evalSs, evalS.eq_1, evalS.eq_2, evalS.eq_3, evalS.eq_4, evalS.eq_5, evalS.eq_6, evalS.eq_7, evalS.eq_8, evalS.eq_9, evalS.eq_12, evalS.eq_13, evalS.eq_14, evalE.eq_1, evalE.eq_2, evalE.eq_3, evalE.eq_4, evalE.eq_5, evalE.eq_6, evalE.eq_7, evalE.eq_8, evalE.eq_9, evalE.eq_10, evalE.eq_11, evalE.eq_12, evalE.eq_13, evalE.eq_14, evalE.eq_15, evalE.eq_17, evalE.eq_18, evalE.eq_19, evalE.eq_20, evalE.eq_21, evalE.eq_22, evalE.eq_25, evalEs, evalO, evalC, evalIt, evI, evB_v, evB_cN, evB_cB, evB_cI, evB_cS, evB_bin, evB_chain, evB_neg, evB_not, evB_and, evB_or, evB_ite, evB_tup, evB_lst, evB_sli, evB_call, evB_bi, evB_birng, evB_pop, evB_isi, evB_comp, evB_comp2, evB_sset, bval_s, evVar, getS, RV.d, resB, slD, bi1, lenD, opB, op2, tst, andE, orE, asgN, asgs, asgR_d, asgR_n, asgT_n, asgT_t, asgR_t, nxO_s, seqO_nx, seqO_rt, seqO_bk, seqO_ct, okSt_un, okSt_im, okSt_mu, cellD_un, cellD_im, cellD_mu, cellD_pm, cellD_bo, setAt, appAt, revAt, augAt, augD, retE_v, retE_cN, retE_cB, retE_cI, retE_cS, retE_bin, retE_chain, retE_neg, retE_not, retE_and, retE_or, retE_ite, retE_tup, retE_lst, retE_sli, retE_call, retE_bi, retE_birng, retE_pop, retE_isi, retE_comp, retE_comp2, retE_sset, rval_s, shal_int, eqv_int, q, cntV]),
    ss_cons_nx (e := [.im (.tuple (ls.map tL)), .im (tK ky), .im (.int (cntV ls ky)), .un, .im (.str "perhaps"), .un]) (by rw [b8_1, evalS, str_ok ok_per]; rfl)]
  -- the words
  have w1 : ∃ u, evalS cl wf b8_2 [.im (.tuple (ls.map tL)), .im (tK ky), .im (.int (cntV ls ky)), .un, .im (.str "perhaps"), .un] = some (.nx [.im (.tuple (ls.map tL)), .im (tK ky), .im (.int (cntV ls ky)), .un, .im (.str u), .un]) ∧ u = if cntV ls ky = ls.length then ("yes" : Str) else "perhaps" := by
    by_cases c : cntV ls ky = ls.length
    · refine ⟨"yes", ?_, by rw [if_pos c]⟩
      rw [b8_2, if_t (e1 := [.im (.tuple (ls.map tL)), .im (tK ky), .im (.int (cntV ls ky)), .un, .im (.str "perhaps"), .un]) (by simp [evalSs, evalS.eq_1, evalS.eq_2, evalS.eq_3, evalS.eq_4, evalS.eq_5, evalS.eq_6, evalS.eq_7, evalS.eq_8, evalS.eq_9, evalS.eq_12, evalS.eq_13, evalS.eq_14, evalE.eq_1, evalE.eq_2, evalE.eq_3, evalE.eq_4, evalE.eq_5, evalE.eq_6, evalE.eq_7, evalE.eq_8, evalE.eq_9, evalE.eq_10, evalE.eq_11, evalE.eq_12, evalE.eq_13, evalE.eq_14, evalE.eq_15, evalE.eq_17, evalE.eq_18, evalE.eq_19, evalE.eq_20, evalE.eq_21, evalE.eq_22, evalE.eq_25, evalEs, evalO, evalC, evalIt, evI, evB_v, evB_cN, evB_cB, evB_cI, evB_cS, evB_bin, evB_chain, evB_neg, evB_not, evB_and, evB_or, evB_ite, evB_tup, evB_lst, evB_sli, evB_call, evB_bi, evB_birng, evB_pop, evB_isi, evB_comp, evB_comp2, evB_sset, bval_s, evVar, getS, RV.d, resB, slD, bi1, lenD, opB, op2, tst, andE, orE, asgN, asgs, asgR_d, asgR_n, asgT_n, asgT_t, asgR_t, nxO_s, seqO_nx, seqO_rt, seqO_bk, seqO_ct, okSt_un, okSt_im, okSt_mu, cellD_un, cellD_im, cellD_mu, cellD_pm, cellD_bo, setAt, appAt, revAt, augAt, augD, retE_v, retE_cN, retE_cB, retE_cI, retE_cS, retE_bin, retE_chain, retE_neg, retE_not, retE_and, retE_or, retE_ite, retE_tup, retE_lst, retE_sli, retE_call, retE_bi, retE_birng, retE_pop, retE_isi, retE_comp, retE_comp2, retE_sset, rval_s, shal_int, eqv_int, c]), ss_cons_nx (e := [.im (.tuple (ls.map tL)), .im (tK ky), .im (.int (cntV ls ky)), .un, .im (.str "yes"), .un]) (by rw [evalS, str_ok ok_yes]; rfl), evalSs]
    · refine ⟨"perhaps", ?_, by rw [if_neg c]⟩
      rw [b8_2, if_f (e1 := [.im (.tuple (ls.map tL)), .im (tK ky), .im (.int (cntV ls ky)), .un, .im (.str "perhaps"), .un]) (by simp [evalSs, evalS.eq_1, evalS.eq_2, evalS.eq_3, evalS.eq_4, evalS.eq_5, evalS.eq_6, evalS.eq_7, evalS.eq_8, evalS.eq_9, evalS.eq_12, evalS.eq_13, evalS.eq_14, evalE.eq_1, evalE.eq_2, evalE.eq_3, evalE.eq_4, evalE.eq_5, evalE.eq_6, evalE.eq_7, evalE.eq_8, evalE.eq_9, evalE.eq_10, evalE.eq_11, evalE.eq_12, evalE.eq_13, evalE.eq_14, evalE.eq_15, evalE.eq_17, evalE.eq_18, evalE.eq_19, evalE.eq_20, evalE.eq_21, evalE.eq_22, evalE.eq_25, evalEs, evalO, evalC, evalIt, evI, evB_v, evB_cN, evB_cB, evB_cI, evB_cS, evB_bin, evB_chain, evB_neg, evB_not, evB_and, evB_or, evB_ite, evB_tup, evB_lst, evB_sli, evB_call, evB_bi, evB_birng, evB_pop, evB_isi, evB_comp, evB_comp2, evB_sset, bval_s, evVar, getS, RV.d, resB, slD, bi1, lenD, opB, op2, tst, andE, orE, asgN, asgs, asgR_d, asgR_n, asgT_n, asgT_t, asgR_t, nxO_s, seqO_nx, seqO_rt, seqO_bk, seqO_ct, okSt_un, okSt_im, okSt_mu, cellD_un, cellD_im, cellD_mu, cellD_pm, cellD_bo, setAt, appAt, revAt, augAt, augD, retE_v, retE_cN, retE_cB, retE_cI, retE_cS, retE_bin, retE_chain, retE_neg, retE_not, retE_and, retE_or, retE_ite, retE_tup, retE_lst, retE_sli, retE_call, retE_bi, retE_birng, retE_pop, retE_isi, retE_comp, retE_comp2, retE_sset, rval_s, shal_int, eqv_int, c]; omega), evalSs]
  obtain ⟨u, w1, hu⟩ := w1
  have w2 : evalS cl wf b8_3 [.im (.tuple (ls.map tL)), .im (tK ky), .im (.int (cntV ls ky)), .un, .im (.str u), .un] = some (.nx [.im (.tuple (ls.map tL)), .im (tK ky), .im (.int (cntV ls ky)), .un, .im (.str (dueV ls ky)), .un]) := by
    unfold dueV
    by_cases c : cntV ls ky = 0
    · rw [if_pos c, b8_3, if_t (e1 := [.im (.tuple (ls.map tL)), .im (tK ky), .im (.int (cntV ls ky)), .un, .im (.str u), .un]) (by simp [evalSs, evalS.eq_1, evalS.eq_2, evalS.eq_3, evalS.eq_4, evalS.eq_5, evalS.eq_6, evalS.eq_7, evalS.eq_8, evalS.eq_9, evalS.eq_12, evalS.eq_13, evalS.eq_14, evalE.eq_1, evalE.eq_2, evalE.eq_3, evalE.eq_4, evalE.eq_5, evalE.eq_6, evalE.eq_7, evalE.eq_8, evalE.eq_9, evalE.eq_10, evalE.eq_11, evalE.eq_12, evalE.eq_13, evalE.eq_14, evalE.eq_15, evalE.eq_17, evalE.eq_18, evalE.eq_19, evalE.eq_20, evalE.eq_21, evalE.eq_22, evalE.eq_25, evalEs, evalO, evalC, evalIt, evI, evB_v, evB_cN, evB_cB, evB_cI, evB_cS, evB_bin, evB_chain, evB_neg, evB_not, evB_and, evB_or, evB_ite, evB_tup, evB_lst, evB_sli, evB_call, evB_bi, evB_birng, evB_pop, evB_isi, evB_comp, evB_comp2, evB_sset, bval_s, evVar, getS, RV.d, resB, slD, bi1, lenD, opB, op2, tst, andE, orE, asgN, asgs, asgR_d, asgR_n, asgT_n, asgT_t, asgR_t, nxO_s, seqO_nx, seqO_rt, seqO_bk, seqO_ct, okSt_un, okSt_im, okSt_mu, cellD_un, cellD_im, cellD_mu, cellD_pm, cellD_bo, setAt, appAt, revAt, augAt, augD, retE_v, retE_cN, retE_cB, retE_cI, retE_cS, retE_bin, retE_chain, retE_neg, retE_not, retE_and, retE_or, retE_ite, retE_tup, retE_lst, retE_sli, retE_call, retE_bi, retE_birng, retE_pop, retE_isi, retE_comp, retE_comp2, retE_sset, rval_s, shal_int, eqv_int, c]), ss_cons_nx (e := [.im (.tuple (ls.map tL)), .im (tK ky), .im (.int (cntV ls ky)), .un, .im (.str "no"), .un]) (by rw [evalS, str_ok ok_no]; rfl), evalSs]
    · rw [if_neg c, ← hu, b8_3, if_f (e1 := [.im (.tuple (ls.map tL)), .im (tK ky), .im (.int (cntV ls ky)), .un, .im (.str u), .un]) (by simp [evalSs, evalS.eq_1, evalS.eq_2, evalS.eq_3, evalS.eq_4, evalS.eq_5, evalS.eq_6, evalS.eq_7, evalS.eq_8, evalS.eq_9, evalS.eq_12, evalS.eq_13, evalS.eq_14, evalE.eq_1, evalE.eq_2, evalE.eq_3, evalE.eq_4, evalE.eq_5, evalE.eq_6, evalE.eq_7, evalE.eq_8, evalE.eq_9, evalE.eq_10, evalE.eq_11, evalE.eq_12, evalE.eq_13, evalE.eq_14, evalE.eq_15, evalE.eq_17, evalE.eq_18, evalE.eq_19, evalE.eq_20, evalE.eq_21, evalE.eq_22, evalE.eq_25, evalEs, evalO, evalC, evalIt, evI, evB_v, evB_cN, evB_cB, evB_cI, evB_cS, evB_bin, evB_chain, evB_neg, evB_not, evB_and, evB_or, evB_ite, evB_tup, evB_lst, evB_sli, evB_call, evB_bi, evB_birng, evB_pop, evB_isi, evB_comp, evB_comp2, evB_sset, bval_s, evVar, getS, RV.d, resB, slD, bi1, lenD, opB, op2, tst, andE, orE, asgN, asgs, asgR_d, asgR_n, asgT_n, asgT_t, asgR_t, nxO_s, seqO_nx, seqO_rt, seqO_bk, seqO_ct, okSt_un, okSt_im, okSt_mu, cellD_un, cellD_im, cellD_mu, cellD_pm, cellD_bo, setAt, appAt, revAt, augAt, augD, retE_v, retE_cN, retE_cB, retE_cI, retE_cS, retE_bin, retE_chain, retE_neg, retE_not, retE_and, retE_or, retE_ite, retE_tup, retE_lst, retE_sli, retE_call, retE_bi, retE_birng, retE_pop, retE_isi, retE_comp, retE_comp2, retE_sset, rval_s, shal_int, eqv_int, c]), evalSs]
  rw [ss_cons_nx w1, ss_cons_nx w2, ss_cons_nx (e := [.im (.tuple (ls.map tL)), .im (tK ky), .im (.int (cntV ls ky)), .un, .im (.str (dueV ls ky)), .im (.str (sureV ls ky))]) (by simp [b8_4, evalE.eq_16, evalA, evAV_v, evAV_cN, evAV_cB, evAV_cI, evAV_cS, evAV_bin, evAV_chain, evAV_neg, evAV_not, evAV_and, evAV_or, evAV_ite, evAV_tup, evAV_lst, evAV_sli, evAV_call, evAV_bi, evAV_birng, evAV_pop, evAV_isi, evAV_comp, evAV_comp2, evAV_sset, aval_s, callE, cellsA, borsA, cargs, setCs, setC, nodupB, evalSs, evalS.eq_1, evalS.eq_2, evalS.eq_3, evalS.eq_4, evalS.eq_5, evalS.eq_6, evalS.eq_7, evalS.eq_8, evalS.eq_9, evalS.eq_12, evalS.eq_13, evalS.eq_14, evalE.eq_1, evalE.eq_2, evalE.eq_3, evalE.eq_4, evalE.eq_5, evalE.eq_6, evalE.eq_7, evalE.eq_8, evalE.eq_9, evalE.eq_10, evalE.eq_11, evalE.eq_12, evalE.eq_13, evalE.eq_14, evalE.eq_15, evalE.eq_17, evalE.eq_18, evalE.eq_19, evalE.eq_20, evalE.eq_21, evalE.eq_22, evalE.eq_25, evalEs, evalO, evalC, evalIt, evI, evB_v, evB_cN, evB_cB, evB_cI, evB_cS, evB_bin, evB_chain, evB_neg, evB_not, evB_and, evB_or, evB_ite, evB_tup, evB_lst, evB_sli, evB_call, evB_bi, evB_birng, evB_pop, evB_isi, evB_comp, evB_comp2, evB_sset, bval_s, evVar, getS, RV.d, resB, slD, bi1, lenD, opB, op2, tst, andE, orE, asgN, asgs, asgR_d, asgR_n, asgT_n, asgT_t, asgR_t, nxO_s, seqO_nx, seqO_rt, seqO_bk, seqO_ct, okSt_un, okSt_im, okSt_mu, cellD_un, cellD_im, cellD_mu, cellD_pm, cellD_bo, setAt, appAt, revAt, augAt, augD, retE_v, retE_cN, retE_cB, retE_cI, retE_cS, retE_bin, retE_chain, retE_neg, retE_not, retE_and, retE_or, retE_ite, retE_tup, retE_lst, retE_sli, retE_call, retE_bi, retE_birng, retE_pop, retE_isi, retE_comp, retE_comp2, retE_sset, rval_s, shal_int, eqv_int, m1, hs]), hd]
  simp [b8_5, evalE.eq_16, evalA, evAV_v, evAV_cN, evAV_cB, evAV_cI, evAV_cS, evAV_bin, evAV_chain, evAV_neg, evAV_not, evAV_and, evAV_or, evAV_ite, evAV_tup, evAV_lst, evAV_sli, evAV_call, evAV_bi, evAV_birng, evAV_pop, evAV_isi, evAV_comp, evAV_comp2, evAV_sset, aval_s, callE, cellsA, borsA, cargs, setCs, setC, nodupB, evalSs, evalS.eq_1, evalS.eq_2, evalS.eq_3, evalS.eq_4, evalS.eq_5, evalS.eq_6, evalS.eq_7, evalS.eq_8, evalS.eq_9, evalS.eq_12, evalS.eq_13, evalS.eq_14, evalE.eq_1, evalE.eq_2, evalE.eq_3, evalE.eq_4, evalE.eq_5, evalE.eq_6, evalE.eq_7, evalE.eq_8, evalE.eq_9, evalE.eq_10, evalE.eq_11, evalE.eq_12, evalE.eq_13, evalE.eq_14, evalE.eq_15, evalE.eq_17, evalE.eq_18, evalE.eq_19, evalE.eq_20, evalE.eq_21, evalE.eq_22, evalE.eq_25, evalEs, evalO, evalC, evalIt, evI, evB_v, evB_cN, evB_cB, evB_cI, evB_cS, evB_bin, evB_chain, evB_neg, evB_not, evB_and, evB_or, evB_ite, evB_tup, evB_lst, evB_sli, evB_call, evB_bi, evB_birng, evB_pop, evB_isi, evB_comp, evB_comp2, evB_sset, bval_s, evVar, getS, RV.d, resB, slD, bi1, lenD, opB, op2, tst, andE, orE, asgN, asgs, asgR_d, asgR_n, asgT_n, asgT_t, asgR_t, nxO_s, seqO_nx, seqO_rt, seqO_bk, seqO_ct, okSt_un, okSt_im, okSt_mu, cellD_un, cellD_im, cellD_mu, cellD_pm, cellD_bo, setAt, appAt, revAt, augAt, augD, retE_v, retE_cN, retE_cB, retE_cI, retE_cS, retE_bin, retE_chain, retE_neg, retE_not, retE_and, retE_or, retE_ite, retE_tup, retE_lst, retE_sli, retE_call, retE_bi, retE_birng, retE_pop, retE_isi, retE_comp, retE_comp2, retE_sset, rval_s, shal_int, eqv_int, tyOk, shal_str, eqv_str]
theorem says_ok {ls : List (List (List Int))} {ky : List Int} (h : ∀ l ∈ ls, ky.length = l.length) (hk : ky.length ≤ 1000) (hl : ls.length ≤ 1000) (hne : ls ≠ []) : callAt T wf (k + 3) 8 [.im (.tuple (ls.map tL)), .im (tK ky)] = some (.dat (.bool true), []) :=
  run_eq (d := d8) (b := b8) (e0 := [.im (.tuple (ls.map tL)), .im (tK ky), .un, .un, .un, .un]) rfl rfl rfl rfl (says_body rfl rfl (fun l h1 h2 => by rw [clAt_run]; exact lop_ok h1 h2) (by rw [clAt_run]; exact sure_ok h hk hl) h hk hl hne) rfl
/-! drawn -/
abbrev Takes (cl : CL) : Prop := ∀ (ds : List Int) (m : Int), 0 < m → ∃ (v : Nat) (ds' : List Int), cl.run 3 [.cell (il ds), .im (.int m)] = some (.dat (.int (v : Int)), [il ds']) ∧ (v : Int) < m
theorem insU_len (x : Int) : ∀ ys : List Int, (insU x ys).length ≤ ys.length + 1
  | [] => by simp [insU]
  | y :: ys => by
    unfold insU
    split
    · simp
    · split
      · simp
      · have := insU_len x ys
        simp only [List.length_cons]
        omega
theorem sortU_len : ∀ xs : List Int, (sortU xs).length ≤ xs.length
  | [] => by simp [sortU]
  | x :: xs => by
    unfold sortU
    have := insU_len x (sortU xs)
    have := sortU_len xs
    simp only [List.length_cons]
    omega
theorem sset_il {xs : List Int} (h : xs.length < 64) : ssetD (.list (il xs)) = some (.new (il (sortU xs))) := by
  have h1 := sortU_len xs
  simp only [ssetD, seqOf, intsOf_il]
  rw [if_pos ⟨by omega, by omega⟩]
theorem lets_body (m3 : cl.md 3 = [true, false]) (ht : Takes cl) (ds : List Int) (d : Nat) (hd : 0 < d) : ∃ cs ds' xs x, 0 < cs.length ∧ cs.length ≤ 3 ∧ evalSs cl wf b5 [.pm (il ds), .im (.int d), .un, .un] = some (.rt (.dat (tK cs)) [.pm (il ds'), .im (.int d), .mu (il xs), x]) := by
  obtain ⟨v, d1, t1, _⟩ := ht ds d (by omega)
  obtain ⟨n, d2, t2, l2⟩ := ht d1 3 (by omega)
  have hb : bnd (n : Int) = true := by unfold bnd; simp only [Bool.and_eq_true, decide_eq_true_eq]; omega
  obtain ⟨e', h1, ds', xs, x, rfl, hx, hl⟩ := for_run (cl := cl) (wf := wf) (tg := .name 3) (it := .r1 (.call 3 (.cons (.var 0) (.cons (.cI 3) .nil)))) (body := b5_1b) (env := [.pm (il d1), .im (.int d), .mu (il [(v : Int)]), .un]) (b := none) (e1 := [.pm (il d2), .im (.int d), .mu (il [(v : Int)]), .un]) (ds := rng1 n)
    (fun i e => ∃ (ds' xs : List Int) (x : Sl), e = [.pm (il ds'), .im (.int d), .mu (il xs), x] ∧ okSt x = true ∧ xs.length = i + 1) (by simp [evalE.eq_16, evalA, evAV_v, evAV_cN, evAV_cB, evAV_cI, evAV_cS, evAV_bin, evAV_chain, evAV_neg, evAV_not, evAV_and, evAV_or, evAV_ite, evAV_tup, evAV_lst, evAV_sli, evAV_call, evAV_bi, evAV_birng, evAV_pop, evAV_isi, evAV_comp, evAV_comp2, evAV_sset, aval_s, callE, cellsA, borsA, cargs, setCs, setC, nodupB, evalSs, evalS.eq_1, evalS.eq_2, evalS.eq_3, evalS.eq_4, evalS.eq_5, evalS.eq_6, evalS.eq_7, evalS.eq_8, evalS.eq_9, evalS.eq_12, evalS.eq_13, evalS.eq_14, evalE.eq_1, evalE.eq_2, evalE.eq_3, evalE.eq_4, evalE.eq_5, evalE.eq_6, evalE.eq_7, evalE.eq_8, evalE.eq_9, evalE.eq_10, evalE.eq_11, evalE.eq_12, evalE.eq_13, evalE.eq_14, evalE.eq_15, evalE.eq_17, evalE.eq_18, evalE.eq_19, evalE.eq_20, evalE.eq_21, evalE.eq_22, evalE.eq_25, evalEs, evalO, evalC, evalIt, evI, evB_v, evB_cN, evB_cB, evB_cI, evB_cS, evB_bin, evB_chain, evB_neg, evB_not, evB_and, evB_or, evB_ite, evB_tup, evB_lst, evB_sli, evB_call, evB_bi, evB_birng, evB_pop, evB_isi, evB_comp, evB_comp2, evB_sset, bval_s, evVar, getS, RV.d, resB, slD, bi1, lenD, opB, op2, tst, andE, orE, asgN, asgs, asgR_d, asgR_n, asgT_n, asgT_t, asgR_t, nxO_s, seqO_nx, seqO_rt, seqO_bk, seqO_ct, okSt_un, okSt_im, okSt_mu, cellD_un, cellD_im, cellD_mu, cellD_pm, cellD_bo, setAt, appAt, revAt, augAt, augD, retE_v, retE_cN, retE_cB, retE_cI, retE_cS, retE_bin, retE_chain, retE_neg, retE_not, retE_and, retE_or, retE_ite, retE_tup, retE_lst, retE_sli, retE_call, retE_bi, retE_birng, retE_pop, retE_isi, retE_comp, retE_comp2, retE_sset, rval_s, shal_int, eqv_int, m3, t2, hb]) ⟨d2, [(v : Int)], .un, rfl, rfl, rfl⟩ fun i y e hy ⟨ds', xs, x, he, hx, hl⟩ => by
      subst he
      obtain ⟨hi, rfl⟩ := rng_get hy
      obtain ⟨u, d3, t3, _⟩ := ht ds' d (by omega)
      have hl2 : xs.length < 16777216 := by omega
      exact ⟨[.pm (il ds'), .im (.int d), .mu (il xs), .im (.int i)], by simp [evalSs, evalS.eq_1, evalS.eq_2, evalS.eq_3, evalS.eq_4, evalS.eq_5, evalS.eq_6, evalS.eq_7, evalS.eq_8, evalS.eq_9, evalS.eq_12, evalS.eq_13, evalS.eq_14, evalE.eq_1, evalE.eq_2, evalE.eq_3, evalE.eq_4, evalE.eq_5, evalE.eq_6, evalE.eq_7, evalE.eq_8, evalE.eq_9, evalE.eq_10, evalE.eq_11, evalE.eq_12, evalE.eq_13, evalE.eq_14, evalE.eq_15, evalE.eq_17, evalE.eq_18, evalE.eq_19, evalE.eq_20, evalE.eq_21, evalE.eq_22, evalE.eq_25, evalEs, evalO, evalC, evalIt, evI, evB_v, evB_cN, evB_cB, evB_cI, evB_cS, evB_bin, evB_chain, evB_neg, evB_not, evB_and, evB_or, evB_ite, evB_tup, evB_lst, evB_sli, evB_call, evB_bi, evB_birng, evB_pop, evB_isi, evB_comp, evB_comp2, evB_sset, bval_s, evVar, getS, RV.d, resB, slD, bi1, lenD, opB, op2, tst, andE, orE, asgN, asgs, asgR_d, asgR_n, asgT_n, asgT_t, asgR_t, nxO_s, seqO_nx, seqO_rt, seqO_bk, seqO_ct, okSt_un, okSt_im, okSt_mu, cellD_un, cellD_im, cellD_mu, cellD_pm, cellD_bo, setAt, appAt, revAt, augAt, augD, retE_v, retE_cN, retE_cB, retE_cI, retE_cS, retE_bin, retE_chain, retE_neg, retE_not, retE_and, retE_or, retE_ite, retE_tup, retE_lst, retE_sli, retE_call, retE_bi, retE_birng, retE_pop, retE_isi, retE_comp, retE_comp2, retE_sset, rval_s, shal_int, eqv_int, hx], [.pm (il d3), .im (.int d), .mu (il (xs ++ [(u : Int)])), .im (.int i)], .inl (by simp [b5_1b, b5_1b_0, evalE.eq_16, evalA, evAV_v, evAV_cN, evAV_cB, evAV_cI, evAV_cS, evAV_bin, evAV_chain, evAV_neg, evAV_not, evAV_and, evAV_or, evAV_ite, evAV_tup, evAV_lst, evAV_sli, evAV_call, evAV_bi, evAV_birng, evAV_pop, evAV_isi, evAV_comp, evAV_comp2, evAV_sset, aval_s, callE, cellsA, borsA, cargs, setCs, setC, nodupB, evalSs, evalS.eq_1, evalS.eq_2, evalS.eq_3, evalS.eq_4, evalS.eq_5, evalS.eq_6, evalS.eq_7, evalS.eq_8, evalS.eq_9, evalS.eq_12, evalS.eq_13, evalS.eq_14, evalE.eq_1, evalE.eq_2, evalE.eq_3, evalE.eq_4, evalE.eq_5, evalE.eq_6, evalE.eq_7, evalE.eq_8, evalE.eq_9, evalE.eq_10, evalE.eq_11, evalE.eq_12, evalE.eq_13, evalE.eq_14, evalE.eq_15, evalE.eq_17, evalE.eq_18, evalE.eq_19, evalE.eq_20, evalE.eq_21, evalE.eq_22, evalE.eq_25, evalEs, evalO, evalC, evalIt, evI, evB_v, evB_cN, evB_cB, evB_cI, evB_cS, evB_bin, evB_chain, evB_neg, evB_not, evB_and, evB_or, evB_ite, evB_tup, evB_lst, evB_sli, evB_call, evB_bi, evB_birng, evB_pop, evB_isi, evB_comp, evB_comp2, evB_sset, bval_s, evVar, getS, RV.d, resB, slD, bi1, lenD, opB, op2, tst, andE, orE, asgN, asgs, asgR_d, asgR_n, asgT_n, asgT_t, asgR_t, nxO_s, seqO_nx, seqO_rt, seqO_bk, seqO_ct, okSt_un, okSt_im, okSt_mu, cellD_un, cellD_im, cellD_mu, cellD_pm, cellD_bo, setAt, appAt, revAt, augAt, augD, retE_v, retE_cN, retE_cB, retE_cI, retE_cS, retE_bin, retE_chain, retE_neg, retE_not, retE_and, retE_or, retE_ite, retE_tup, retE_lst, retE_sli, retE_call, retE_bi, retE_birng, retE_pop, retE_isi, retE_comp, retE_comp2, retE_sset, rval_s, shal_int, eqv_int, m3, t3, hl2]), d3, xs ++ [(u : Int)], .im (.int i), rfl, rfl, by simp [hl]⟩
  have hl3 : xs.length ≤ 3 := by rw [hl]; simp [rng1]; omega
  have q := sset_il (xs := xs) (by omega)
  have hs := sortU_len xs
  refine ⟨sortU xs, ds', xs, x, ?_, by omega, ?_⟩
  · cases xs with
    | nil => simp at hl
    | cons a r => exact len_pos (List.ne_nil_of_mem ((sortU_mem a (a :: r)).mpr List.mem_cons_self))
  · have h1 : evalS cl wf b5_1 [.pm (il d1), .im (.int d), .mu (il [(v : Int)]), .un] = some (.nx [.pm (il ds'), .im (.int d), .mu (il xs), x]) := h1
    rw [b5, ss_cons_nx (e := [.pm (il d1), .im (.int d), .mu (il [(v : Int)]), .un]) (by simp [b5_0, evalE.eq_16, evalA, evAV_v, evAV_cN, evAV_cB, evAV_cI, evAV_cS, evAV_bin, evAV_chain, evAV_neg, evAV_not, evAV_and, evAV_or, evAV_ite, evAV_tup, evAV_lst, evAV_sli, evAV_call, evAV_bi, evAV_birng, evAV_pop, evAV_isi, evAV_comp, evAV_comp2, evAV_sset, aval_s, callE, cellsA, borsA, cargs, setCs, setC, nodupB, evalSs, evalS.eq_1, evalS.eq_2, evalS.eq_3, evalS.eq_4, evalS.eq_5, evalS.eq_6, evalS.eq_7, evalS.eq_8, evalS.eq_9, evalS.eq_12, evalS.eq_13, evalS.eq_14, evalE.eq_1, evalE.eq_2, evalE.eq_3, evalE.eq_4, evalE.eq_5, evalE.eq_6, evalE.eq_7, evalE.eq_8, evalE.eq_9, evalE.eq_10, evalE.eq_11, evalE.eq_12, evalE.eq_13, evalE.eq_14, evalE.eq_15, evalE.eq_17, evalE.eq_18, evalE.eq_19, evalE.eq_20, evalE.eq_21, evalE.eq_22, evalE.eq_25, evalEs, evalO, evalC, evalIt, evI, evB_v, evB_cN, evB_cB, evB_cI, evB_cS, evB_bin, evB_chain, evB_neg, evB_not, evB_and, evB_or, evB_ite, evB_tup, evB_lst, evB_sli, evB_call, evB_bi, evB_birng, evB_pop, evB_isi, evB_comp, evB_comp2, evB_sset, bval_s, evVar, getS, RV.d, resB, slD, bi1, lenD, opB, op2, tst, andE, orE, asgN, asgs, asgR_d, asgR_n, asgT_n, asgT_t, asgR_t, nxO_s, seqO_nx, seqO_rt, seqO_bk, seqO_ct, okSt_un, okSt_im, okSt_mu, cellD_un, cellD_im, cellD_mu, cellD_pm, cellD_bo, setAt, appAt, revAt, augAt, augD, retE_v, retE_cN, retE_cB, retE_cI, retE_cS, retE_bin, retE_chain, retE_neg, retE_not, retE_and, retE_or, retE_ite, retE_tup, retE_lst, retE_sli, retE_call, retE_bi, retE_birng, retE_pop, retE_isi, retE_comp, retE_comp2, retE_sset, rval_s, shal_int, eqv_int, m3, t1]), ss_cons_nx h1]
    simp [b5_2, evalSs, evalS.eq_1, evalS.eq_2, evalS.eq_3, evalS.eq_4, evalS.eq_5, evalS.eq_6, evalS.eq_7, evalS.eq_8, evalS.eq_9, evalS.eq_12, evalS.eq_13, evalS.eq_14, evalE.eq_1, evalE.eq_2, evalE.eq_3, evalE.eq_4, evalE.eq_5, evalE.eq_6, evalE.eq_7, evalE.eq_8, evalE.eq_9, evalE.eq_10, evalE.eq_11, evalE.eq_12, evalE.eq_13, evalE.eq_14, evalE.eq_15, evalE.eq_17, evalE.eq_18, evalE.eq_19, evalE.eq_20, evalE.eq_21, evalE.eq_22, evalE.eq_25, evalEs, evalO, evalC, evalIt, evI, evB_v, evB_cN, evB_cB, evB_cI, evB_cS, evB_bin, evB_chain, evB_neg, evB_not, evB_and, evB_or, evB_ite, evB_tup, evB_lst, evB_sli, evB_call, evB_bi, evB_birng, evB_pop, evB_isi, evB_comp, evB_comp2, evB_sset, bval_s, evVar, getS, RV.d, resB, slD, bi1, lenD, opB, op2, tst, andE, orE, asgN, asgs, asgR_d, asgR_n, asgT_n, asgT_t, asgR_t, nxO_s, seqO_nx, seqO_rt, seqO_bk, seqO_ct, okSt_un, okSt_im, okSt_mu, cellD_un, cellD_im, cellD_mu, cellD_pm, cellD_bo, setAt, appAt, revAt, augAt, augD, retE_v, retE_cN, retE_cB, retE_cI, retE_cS, retE_bin, retE_chain, retE_neg, retE_not, retE_and, retE_or, retE_ite, retE_tup, retE_lst, retE_sli, retE_call, retE_bi, retE_birng, retE_pop, retE_isi, retE_comp, retE_comp2, retE_sset, rval_s, shal_int, eqv_int, q, seqOf]
theorem lets_ok {wf k : Nat} (ds : List Int) (d : Nat) (hd : 0 < d) : ∃ cs ds', 0 < cs.length ∧ cs.length ≤ 3 ∧ callAt T wf (k + 2) 5 [.cell (il ds), .im (.int d)] = some (.dat (tK cs), [il ds']) := by
  obtain ⟨cs, ds', xs, x, h1, h2, h3⟩ := lets_body (cl := clAt T wf (k + 1)) (wf := wf) rfl (fun ds m hm => by rw [clAt_run]; exact take_ex (T := T) rfl ds m hm) ds d hd
  exact ⟨cs, ds', h1, h2, run_eq (d := d5) (b := b5) (e0 := [.pm (il ds), .im (.int d), .un, .un]) rfl rfl rfl rfl h3 rfl⟩
/-! locks and keys -/
/-- a list of locks of c chambers, each with cuts; a list of keys of c cuts -/
def Locks (c : Nat) (ls : List (List (List Int))) : Prop := ∀ l ∈ ls, l.length = c ∧ ∀ cs ∈ l, 0 < cs.length
def Keys (c : Nat) (ks : List (List Int)) : Prop := ∀ ky ∈ ks, ky.length = c
theorem Locks.app {c : Nat} {ls : List (List (List Int))} {l : List (List Int)} (h : Locks c ls) (h1 : l.length = c) (h2 : ∀ cs ∈ l, 0 < cs.length) : Locks c (ls ++ [l]) := fun x hx => by
  rcases List.mem_append.mp hx with q | q
  · exact h x q
  · rw [List.mem_singleton.mp q]; exact ⟨h1, h2⟩
theorem Keys.app {c : Nat} {ks : List (List Int)} {ky : List Int} (h : Keys c ks) (h1 : ky.length = c) : Keys c (ks ++ [ky]) := fun x hx => by
  rcases List.mem_append.mp hx with q | q
  · exact h x q
  · rw [List.mem_singleton.mp q]; exact h1
/-- 1 in one place -/
theorem unit_lc {p : PyData} {ds : List Int} {cnt : Nat} {i : Nat} {ls : List (List (List Int))} {ks : List (List Int)} (hc : cnt ≤ 1000) : ∃ ky : List Int, ky.length = cnt ∧ evalE cl (.comp (.bi .int (.cons (.bin .eq (.var 6) (.var 5)) .nil)) (.name 6) (.r1 (.var 2)) .none [6]) [.pm (il ds), .im p, .im (.int cnt), .mu (ls.map tL), .mu (ks.map tK), .im (.int i), .un, .un, .un, .un, .un] =
    some (.new (il ky), [.pm (il ds), .im p, .im (.int cnt), .mu (ls.map tL), .mu (ks.map tK), .im (.int i), .un, .un, .un, .un, .un]) := by
  have hb : bnd (cnt : Int) = true := by unfold bnd; simp only [Bool.and_eq_true, decide_eq_true_eq]; omega
  have hc2 := comp1 (cl := cl) (elt := .bi .int (.cons (.bin .eq (.var 6) (.var 5)) .nil)) (it := .r1 (.var 2)) (c := .none) (v := 6) (env := [.pm (il ds), .im p, .im (.int cnt), .mu (ls.map tL), .mu (ks.map tK), .im (.int i), .un, .un, .un, .un, .un]) (e1 := [.pm (il ds), .im p, .im (.int cnt), .mu (ls.map tL), .mu (ks.map tK), .im (.int i), .un, .un, .un, .un, .un]) (b := none) (ds := rng1 cnt)
    (fun d => match d with
      | .int j => [.int (if j = (i : Int) then 1 else 0)]
      | _ => []) (by simp [evalSs, evalS.eq_1, evalS.eq_2, evalS.eq_3, evalS.eq_4, evalS.eq_5, evalS.eq_6, evalS.eq_7, evalS.eq_8, evalS.eq_9, evalS.eq_12, evalS.eq_13, evalS.eq_14, evalE.eq_1, evalE.eq_2, evalE.eq_3, evalE.eq_4, evalE.eq_5, evalE.eq_6, evalE.eq_7, evalE.eq_8, evalE.eq_9, evalE.eq_10, evalE.eq_11, evalE.eq_12, evalE.eq_13, evalE.eq_14, evalE.eq_15, evalE.eq_17, evalE.eq_18, evalE.eq_19, evalE.eq_20, evalE.eq_21, evalE.eq_22, evalE.eq_25, evalEs, evalO, evalC, evalIt, evI, evB_v, evB_cN, evB_cB, evB_cI, evB_cS, evB_bin, evB_chain, evB_neg, evB_not, evB_and, evB_or, evB_ite, evB_tup, evB_lst, evB_sli, evB_call, evB_bi, evB_birng, evB_pop, evB_isi, evB_comp, evB_comp2, evB_sset, bval_s, evVar, getS, RV.d, resB, slD, bi1, lenD, opB, op2, tst, andE, orE, asgN, asgs, asgR_d, asgR_n, asgT_n, asgT_t, asgR_t, nxO_s, seqO_nx, seqO_rt, seqO_bk, seqO_ct, okSt_un, okSt_im, okSt_mu, cellD_un, cellD_im, cellD_mu, cellD_pm, cellD_bo, setAt, appAt, revAt, augAt, augD, retE_v, retE_cN, retE_cB, retE_cI, retE_cS, retE_bin, retE_chain, retE_neg, retE_not, retE_and, retE_or, retE_ite, retE_tup, retE_lst, retE_sli, retE_call, retE_bi, retE_birng, retE_pop, retE_isi, retE_comp, retE_comp2, retE_sset, rval_s, shal_int, eqv_int, hb]) (fun z => nomatch z) (by simp) rfl (fun d hd => by
    obtain ⟨j, hj, rfl⟩ := mem_rng1 hd
    refine .inl ⟨.dat (.int (if (j : Int) = (i : Int) then 1 else 0)), rfl, ?_, rfl⟩
    by_cases q : j = i
    · simp [lockE, evalSs, evalS.eq_1, evalS.eq_2, evalS.eq_3, evalS.eq_4, evalS.eq_5, evalS.eq_6, evalS.eq_7, evalS.eq_8, evalS.eq_9, evalS.eq_12, evalS.eq_13, evalS.eq_14, evalE.eq_1, evalE.eq_2, evalE.eq_3, evalE.eq_4, evalE.eq_5, evalE.eq_6, evalE.eq_7, evalE.eq_8, evalE.eq_9, evalE.eq_10, evalE.eq_11, evalE.eq_12, evalE.eq_13, evalE.eq_14, evalE.eq_15, evalE.eq_17, evalE.eq_18, evalE.eq_19, evalE.eq_20, evalE.eq_21, evalE.eq_22, evalE.eq_25, evalEs, evalO, evalC, evalIt, evI, evB_v, evB_cN, evB_cB, evB_cI, evB_cS, evB_bin, evB_chain, evB_neg, evB_not, evB_and, evB_or, evB_ite, evB_tup, evB_lst, evB_sli, evB_call, evB_bi, evB_birng, evB_pop, evB_isi, evB_comp, evB_comp2, evB_sset, bval_s, evVar, getS, RV.d, resB, slD, bi1, lenD, opB, op2, tst, andE, orE, asgN, asgs, asgR_d, asgR_n, asgT_n, asgT_t, asgR_t, nxO_s, seqO_nx, seqO_rt, seqO_bk, seqO_ct, okSt_un, okSt_im, okSt_mu, cellD_un, cellD_im, cellD_mu, cellD_pm, cellD_bo, setAt, appAt, revAt, augAt, augD, retE_v, retE_cN, retE_cB, retE_cI, retE_cS, retE_bin, retE_chain, retE_neg, retE_not, retE_and, retE_or, retE_ite, retE_tup, retE_lst, retE_sli, retE_call, retE_bi, retE_birng, retE_pop, retE_isi, retE_comp, retE_comp2, retE_sset, rval_s, shal_int, eqv_int, q]
    · simp [lockE, evalSs, evalS.eq_1, evalS.eq_2, evalS.eq_3, evalS.eq_4, evalS.eq_5, evalS.eq_6, evalS.eq_7, evalS.eq_8, evalS.eq_9, evalS.eq_12, evalS.eq_13, evalS.eq_14, evalE.eq_1, evalE.eq_2, evalE.eq_3, evalE.eq_4, evalE.eq_5, evalE.eq_6, evalE.eq_7, evalE.eq_8, evalE.eq_9, evalE.eq_10, evalE.eq_11, evalE.eq_12, evalE.eq_13, evalE.eq_14, evalE.eq_15, evalE.eq_17, evalE.eq_18, evalE.eq_19, evalE.eq_20, evalE.eq_21, evalE.eq_22, evalE.eq_25, evalEs, evalO, evalC, evalIt, evI, evB_v, evB_cN, evB_cB, evB_cI, evB_cS, evB_bin, evB_chain, evB_neg, evB_not, evB_and, evB_or, evB_ite, evB_tup, evB_lst, evB_sli, evB_call, evB_bi, evB_birng, evB_pop, evB_isi, evB_comp, evB_comp2, evB_sset, bval_s, evVar, getS, RV.d, resB, slD, bi1, lenD, opB, op2, tst, andE, orE, asgN, asgs, asgR_d, asgR_n, asgT_n, asgT_t, asgR_t, nxO_s, seqO_nx, seqO_rt, seqO_bk, seqO_ct, okSt_un, okSt_im, okSt_mu, cellD_un, cellD_im, cellD_mu, cellD_pm, cellD_bo, setAt, appAt, revAt, augAt, augD, retE_v, retE_cN, retE_cB, retE_cI, retE_cS, retE_bin, retE_chain, retE_neg, retE_not, retE_and, retE_or, retE_ite, retE_tup, retE_lst, retE_sli, retE_call, retE_bi, retE_birng, retE_pop, retE_isi, retE_comp, retE_comp2, retE_sset, rval_s, shal_int, eqv_int, q]) (by rw [rng1_flatMap, flatMap_one, List.length_map, List.length_range]; omega)
  rw [rng1_flatMap, flatMap_one] at hc2
  refine ⟨(List.range cnt).map fun (j : Nat) => if (j : Int) = (i : Int) then (1 : Int) else 0, by simp, ?_⟩
  rw [hc2]
  simp [il, Function.comp_def]
theorem t0 {p : PyData} (ds : List Int) (cnt : Nat) (hc : cnt ≤ 1000) : ∃ (ks : List (List Int)) (x : Sl), okSt x = true ∧ Keys cnt ks ∧ ks.length = cnt ∧ evalS cl wf b6_2t_0 [.pm (il ds), .im p, .im (.int cnt), .mu [], .mu [], .un, .un, .un, .un, .un, .un] = some (.nx [.pm (il ds), .im p, .im (.int cnt), .mu [], .mu (ks.map tK), x, .un, .un, .un, .un, .un]) := by
  have hb : bnd (cnt : Int) = true := by unfold bnd; simp only [Bool.and_eq_true, decide_eq_true_eq]; omega
  obtain ⟨e', h1, ks, x, rfl, hx, hk, hl⟩ := for_run (cl := cl) (wf := wf) (tg := .name 5) (it := .r1 (.var 2)) (body := b6_2t_0b) (env := [.pm (il ds), .im p, .im (.int cnt), .mu [], .mu [], .un, .un, .un, .un, .un, .un]) (b := none) (e1 := [.pm (il ds), .im p, .im (.int cnt), .mu [], .mu [], .un, .un, .un, .un, .un, .un]) (ds := rng1 cnt)
    (fun i e => ∃ (ks : List (List Int)) (x : Sl), e = [.pm (il ds), .im p, .im (.int cnt), .mu [], .mu (ks.map tK), x, .un, .un, .un, .un, .un] ∧ okSt x = true ∧ Keys cnt ks ∧ ks.length = i) (by simp [evalSs, evalS.eq_1, evalS.eq_2, evalS.eq_3, evalS.eq_4, evalS.eq_5, evalS.eq_6, evalS.eq_7, evalS.eq_8, evalS.eq_9, evalS.eq_12, evalS.eq_13, evalS.eq_14, evalE.eq_1, evalE.eq_2, evalE.eq_3, evalE.eq_4, evalE.eq_5, evalE.eq_6, evalE.eq_7, evalE.eq_8, evalE.eq_9, evalE.eq_10, evalE.eq_11, evalE.eq_12, evalE.eq_13, evalE.eq_14, evalE.eq_15, evalE.eq_17, evalE.eq_18, evalE.eq_19, evalE.eq_20, evalE.eq_21, evalE.eq_22, evalE.eq_25, evalEs, evalO, evalC, evalIt, evI, evB_v, evB_cN, evB_cB, evB_cI, evB_cS, evB_bin, evB_chain, evB_neg, evB_not, evB_and, evB_or, evB_ite, evB_tup, evB_lst, evB_sli, evB_call, evB_bi, evB_birng, evB_pop, evB_isi, evB_comp, evB_comp2, evB_sset, bval_s, evVar, getS, RV.d, resB, slD, bi1, lenD, opB, op2, tst, andE, orE, asgN, asgs, asgR_d, asgR_n, asgT_n, asgT_t, asgR_t, nxO_s, seqO_nx, seqO_rt, seqO_bk, seqO_ct, okSt_un, okSt_im, okSt_mu, cellD_un, cellD_im, cellD_mu, cellD_pm, cellD_bo, setAt, appAt, revAt, augAt, augD, retE_v, retE_cN, retE_cB, retE_cI, retE_cS, retE_bin, retE_chain, retE_neg, retE_not, retE_and, retE_or, retE_ite, retE_tup, retE_lst, retE_sli, retE_call, retE_bi, retE_birng, retE_pop, retE_isi, retE_comp, retE_comp2, retE_sset, rval_s, shal_int, eqv_int, hb]) ⟨[], .un, rfl, rfl, fun x hx => (by cases hx), rfl⟩ fun i y e hy ⟨ks, x, he, hx, hk, hl⟩ => by
      subst he
      obtain ⟨hi, rfl⟩ := rng_get hy
      obtain ⟨ky, k1, k2⟩ := unit_lc (cl := cl) (p := p) (ds := ds) (i := i) (ls := []) (ks := ks) hc
      simp only [List.map_nil] at k2
      have hl2 : ks.length < 16777216 := by omega
      exact ⟨[.pm (il ds), .im p, .im (.int cnt), .mu [], .mu (ks.map tK), .im (.int i), .un, .un, .un, .un, .un], by simp [evalSs, evalS.eq_1, evalS.eq_2, evalS.eq_3, evalS.eq_4, evalS.eq_5, evalS.eq_6, evalS.eq_7, evalS.eq_8, evalS.eq_9, evalS.eq_12, evalS.eq_13, evalS.eq_14, evalE.eq_1, evalE.eq_2, evalE.eq_3, evalE.eq_4, evalE.eq_5, evalE.eq_6, evalE.eq_7, evalE.eq_8, evalE.eq_9, evalE.eq_10, evalE.eq_11, evalE.eq_12, evalE.eq_13, evalE.eq_14, evalE.eq_15, evalE.eq_17, evalE.eq_18, evalE.eq_19, evalE.eq_20, evalE.eq_21, evalE.eq_22, evalE.eq_25, evalEs, evalO, evalC, evalIt, evI, evB_v, evB_cN, evB_cB, evB_cI, evB_cS, evB_bin, evB_chain, evB_neg, evB_not, evB_and, evB_or, evB_ite, evB_tup, evB_lst, evB_sli, evB_call, evB_bi, evB_birng, evB_pop, evB_isi, evB_comp, evB_comp2, evB_sset, bval_s, evVar, getS, RV.d, resB, slD, bi1, lenD, opB, op2, tst, andE, orE, asgN, asgs, asgR_d, asgR_n, asgT_n, asgT_t, asgR_t, nxO_s, seqO_nx, seqO_rt, seqO_bk, seqO_ct, okSt_un, okSt_im, okSt_mu, cellD_un, cellD_im, cellD_mu, cellD_pm, cellD_bo, setAt, appAt, revAt, augAt, augD, retE_v, retE_cN, retE_cB, retE_cI, retE_cS, retE_bin, retE_chain, retE_neg, retE_not, retE_and, retE_or, retE_ite, retE_tup, retE_lst, retE_sli, retE_call, retE_bi, retE_birng, retE_pop, retE_isi, retE_comp, retE_comp2, retE_sset, rval_s, shal_int, eqv_int, hx], [.pm (il ds), .im p, .im (.int cnt), .mu [], .mu ((ks ++ [ky]).map tK), .im (.int i), .un, .un, .un, .un, .un], .inl (by simp [b6_2t_0b, b6_2t_0b_0, evalSs, evalS.eq_1, evalS.eq_2, evalS.eq_3, evalS.eq_4, evalS.eq_5, evalS.eq_6, evalS.eq_7, evalS.eq_8, evalS.eq_9, evalS.eq_12, evalS.eq_13, evalS.eq_14, evalE.eq_1, evalE.eq_2, evalE.eq_3, evalE.eq_4, evalE.eq_5, evalE.eq_6, evalE.eq_7, evalE.eq_8, evalE.eq_9, evalE.eq_10, evalE.eq_11, evalE.eq_12, evalE.eq_13, evalE.eq_14, evalE.eq_15, evalE.eq_17, evalE.eq_18, evalE.eq_19, evalE.eq_20, evalE.eq_21, evalE.eq_22, evalE.eq_25, evalEs, evalO, evalC, evalIt, evI, evB_v, evB_cN, evB_cB, evB_cI, evB_cS, evB_bin, evB_chain, evB_neg, evB_not, evB_and, evB_or, evB_ite, evB_tup, evB_lst, evB_sli, evB_call, evB_bi, evB_birng, evB_pop, evB_isi, evB_comp, evB_comp2, evB_sset, bval_s, evVar, getS, RV.d, resB, slD, bi1, lenD, opB, op2, tst, andE, orE, asgN, asgs, asgR_d, asgR_n, asgT_n, asgT_t, asgR_t, nxO_s, seqO_nx, seqO_rt, seqO_bk, seqO_ct, okSt_un, okSt_im, okSt_mu, cellD_un, cellD_im, cellD_mu, cellD_pm, cellD_bo, setAt, appAt, revAt, augAt, augD, retE_v, retE_cN, retE_cB, retE_cI, retE_cS, retE_bin, retE_chain, retE_neg, retE_not, retE_and, retE_or, retE_ite, retE_tup, retE_lst, retE_sli, retE_call, retE_bi, retE_birng, retE_pop, retE_isi, retE_comp, retE_comp2, retE_sset, rval_s, shal_int, eqv_int, k2, seqOf, hl2]), ks ++ [ky], .im (.int i), rfl, rfl, hk.app k1, by simp [hl]⟩
  exact ⟨ks, x, hx, hk, by rw [hl]; simp [rng1], h1⟩
theorem row_lc (m3 : cl.md 3 = [true, false]) (ht : Takes cl) {p : PyData} {ds : List Int} {cnt : Nat} {ls : List PyData} {ks : List PyData} {x5 : Sl} (hc : cnt ≤ 1000) : ∃ (l : List (List Int)) (ds' : List Int), l.length = cnt ∧ (∀ cs ∈ l, 0 < cs.length) ∧
    evalE cl (.comp (.bin .idx (.lst (.cons (.tup (.cons (.cI 0) .nil)) (.cons (.tup (.cons (.cI 0) (.cons (.cI 1) .nil))) .nil))) (.call 3 (.cons (.var 0) (.cons (.cI 2) .nil)))) (.name 6) (.r1 (.var 2)) .none [6]) [.pm (il ds), .im p, .im (.int cnt), .mu ls, .mu ks, x5, .un, .un, .un, .un, .un] =
    some (.new (l.map tK), [.pm (il ds'), .im p, .im (.int cnt), .mu ls, .mu ks, x5, .un, .un, .un, .un, .un]) := by
  have hb : bnd (cnt : Int) = true := by unfold bnd; simp only [Bool.and_eq_true, decide_eq_true_eq]; omega
  obtain ⟨rs, ds', h1, l, h2, h3, h4⟩ := comp1S (α := List Int) (cl := cl) (elt := .bin .idx (.lst (.cons (.tup (.cons (.cI 0) .nil)) (.cons (.tup (.cons (.cI 0) (.cons (.cI 1) .nil))) .nil))) (.call 3 (.cons (.var 0) (.cons (.cI 2) .nil)))) (it := .r1 (.var 2)) (c := .none) (v := 6) (env := [.pm (il ds), .im p, .im (.int cnt), .mu ls, .mu ks, x5, .un, .un, .un, .un, .un]) (e1 := [.pm (il ds), .im p, .im (.int cnt), .mu ls, .mu ks, x5, .un, .un, .un, .un, .un]) (ds := rng1 cnt) (b := none) (fun s => [.pm (il s), .im p, .im (.int cnt), .mu ls, .mu ks, x5, .un, .un, .un, .un, .un])
    (fun i acc _ => ∃ l : List (List Int), acc = l.map tK ∧ l.length = i ∧ ∀ cs ∈ l, 0 < cs.length) ds (by simp [evalSs, evalS.eq_1, evalS.eq_2, evalS.eq_3, evalS.eq_4, evalS.eq_5, evalS.eq_6, evalS.eq_7, evalS.eq_8, evalS.eq_9, evalS.eq_12, evalS.eq_13, evalS.eq_14, evalE.eq_1, evalE.eq_2, evalE.eq_3, evalE.eq_4, evalE.eq_5, evalE.eq_6, evalE.eq_7, evalE.eq_8, evalE.eq_9, evalE.eq_10, evalE.eq_11, evalE.eq_12, evalE.eq_13, evalE.eq_14, evalE.eq_15, evalE.eq_17, evalE.eq_18, evalE.eq_19, evalE.eq_20, evalE.eq_21, evalE.eq_22, evalE.eq_25, evalEs, evalO, evalC, evalIt, evI, evB_v, evB_cN, evB_cB, evB_cI, evB_cS, evB_bin, evB_chain, evB_neg, evB_not, evB_and, evB_or, evB_ite, evB_tup, evB_lst, evB_sli, evB_call, evB_bi, evB_birng, evB_pop, evB_isi, evB_comp, evB_comp2, evB_sset, bval_s, evVar, getS, RV.d, resB, slD, bi1, lenD, opB, op2, tst, andE, orE, asgN, asgs, asgR_d, asgR_n, asgT_n, asgT_t, asgR_t, nxO_s, seqO_nx, seqO_rt, seqO_bk, seqO_ct, okSt_un, okSt_im, okSt_mu, cellD_un, cellD_im, cellD_mu, cellD_pm, cellD_bo, setAt, appAt, revAt, augAt, augD, retE_v, retE_cN, retE_cB, retE_cI, retE_cS, retE_bin, retE_chain, retE_neg, retE_not, retE_and, retE_or, retE_ite, retE_tup, retE_lst, retE_sli, retE_call, retE_bi, retE_birng, retE_pop, retE_isi, retE_comp, retE_comp2, retE_sset, rval_s, shal_int, eqv_int, hb]) (fun z => nomatch z) rfl (by simp) (fun _ => rfl) rfl (fun _ => rfl) ⟨[], rfl, rfl, fun x hx => (by cases hx)⟩ (fun i y acc s hy ⟨l, ha, hl, hp⟩ => by
      obtain ⟨v, s', t1, l1⟩ := ht s 2 (by omega)
      have hv : v = 0 ∨ v = 1 := by omega
      rcases hv with rfl | rfl
      · refine ⟨s, .inl ⟨.dat (tK [0]), s', rfl, by simp [evalE.eq_16, evalA, evAV_v, evAV_cN, evAV_cB, evAV_cI, evAV_cS, evAV_bin, evAV_chain, evAV_neg, evAV_not, evAV_and, evAV_or, evAV_ite, evAV_tup, evAV_lst, evAV_sli, evAV_call, evAV_bi, evAV_birng, evAV_pop, evAV_isi, evAV_comp, evAV_comp2, evAV_sset, aval_s, callE, cellsA, borsA, cargs, setCs, setC, nodupB, evalSs, evalS.eq_1, evalS.eq_2, evalS.eq_3, evalS.eq_4, evalS.eq_5, evalS.eq_6, evalS.eq_7, evalS.eq_8, evalS.eq_9, evalS.eq_12, evalS.eq_13, evalS.eq_14, evalE.eq_1, evalE.eq_2, evalE.eq_3, evalE.eq_4, evalE.eq_5, evalE.eq_6, evalE.eq_7, evalE.eq_8, evalE.eq_9, evalE.eq_10, evalE.eq_11, evalE.eq_12, evalE.eq_13, evalE.eq_14, evalE.eq_15, evalE.eq_17, evalE.eq_18, evalE.eq_19, evalE.eq_20, evalE.eq_21, evalE.eq_22, evalE.eq_25, evalEs, evalO, evalC, evalIt, evI, evB_v, evB_cN, evB_cB, evB_cI, evB_cS, evB_bin, evB_chain, evB_neg, evB_not, evB_and, evB_or, evB_ite, evB_tup, evB_lst, evB_sli, evB_call, evB_bi, evB_birng, evB_pop, evB_isi, evB_comp, evB_comp2, evB_sset, bval_s, evVar, getS, RV.d, resB, slD, bi1, lenD, opB, op2, tst, andE, orE, asgN, asgs, asgR_d, asgR_n, asgT_n, asgT_t, asgR_t, nxO_s, seqO_nx, seqO_rt, seqO_bk, seqO_ct, okSt_un, okSt_im, okSt_mu, cellD_un, cellD_im, cellD_mu, cellD_pm, cellD_bo, setAt, appAt, revAt, augAt, augD, retE_v, retE_cN, retE_cB, retE_cI, retE_cS, retE_bin, retE_chain, retE_neg, retE_not, retE_and, retE_or, retE_ite, retE_tup, retE_lst, retE_sli, retE_call, retE_bi, retE_birng, retE_pop, retE_isi, retE_comp, retE_comp2, retE_sset, rval_s, shal_int, eqv_int, m3, t1, ixn, L2.ixN], l ++ [[0]], by rw [ha]; simp [RV.d], by simp [hl], fun x hx => ?_⟩⟩
        rcases List.mem_append.mp hx with q | q
        · exact hp x q
        · rw [List.mem_singleton.mp q]; decide
      · refine ⟨s, .inl ⟨.dat (tK [0, 1]), s', rfl, by simp [evalE.eq_16, evalA, evAV_v, evAV_cN, evAV_cB, evAV_cI, evAV_cS, evAV_bin, evAV_chain, evAV_neg, evAV_not, evAV_and, evAV_or, evAV_ite, evAV_tup, evAV_lst, evAV_sli, evAV_call, evAV_bi, evAV_birng, evAV_pop, evAV_isi, evAV_comp, evAV_comp2, evAV_sset, aval_s, callE, cellsA, borsA, cargs, setCs, setC, nodupB, evalSs, evalS.eq_1, evalS.eq_2, evalS.eq_3, evalS.eq_4, evalS.eq_5, evalS.eq_6, evalS.eq_7, evalS.eq_8, evalS.eq_9, evalS.eq_12, evalS.eq_13, evalS.eq_14, evalE.eq_1, evalE.eq_2, evalE.eq_3, evalE.eq_4, evalE.eq_5, evalE.eq_6, evalE.eq_7, evalE.eq_8, evalE.eq_9, evalE.eq_10, evalE.eq_11, evalE.eq_12, evalE.eq_13, evalE.eq_14, evalE.eq_15, evalE.eq_17, evalE.eq_18, evalE.eq_19, evalE.eq_20, evalE.eq_21, evalE.eq_22, evalE.eq_25, evalEs, evalO, evalC, evalIt, evI, evB_v, evB_cN, evB_cB, evB_cI, evB_cS, evB_bin, evB_chain, evB_neg, evB_not, evB_and, evB_or, evB_ite, evB_tup, evB_lst, evB_sli, evB_call, evB_bi, evB_birng, evB_pop, evB_isi, evB_comp, evB_comp2, evB_sset, bval_s, evVar, getS, RV.d, resB, slD, bi1, lenD, opB, op2, tst, andE, orE, asgN, asgs, asgR_d, asgR_n, asgT_n, asgT_t, asgR_t, nxO_s, seqO_nx, seqO_rt, seqO_bk, seqO_ct, okSt_un, okSt_im, okSt_mu, cellD_un, cellD_im, cellD_mu, cellD_pm, cellD_bo, setAt, appAt, revAt, augAt, augD, retE_v, retE_cN, retE_cB, retE_cI, retE_cS, retE_bin, retE_chain, retE_neg, retE_not, retE_and, retE_or, retE_ite, retE_tup, retE_lst, retE_sli, retE_call, retE_bi, retE_birng, retE_pop, retE_isi, retE_comp, retE_comp2, retE_sset, rval_s, shal_int, eqv_int, m3, t1, ixn, L2.ixN], l ++ [[0, 1]], by rw [ha]; simp [RV.d], by simp [hl], fun x hx => ?_⟩⟩
        rcases List.mem_append.mp hx with q | q
        · exact hp x q
        · rw [List.mem_singleton.mp q]; decide) (fun rs s ⟨l, ha, hl, _⟩ => by rw [ha, List.length_map, hl]; simp [rng1]; omega)
  exact ⟨l, ds', by rw [h3]; simp [rng1], h4, by rw [h1, h2]; rfl⟩
theorem t1 (m3 : cl.md 3 = [true, false]) (ht : Takes cl) (ds : List Int) (many cnt : Nat) (ks : List PyData) (hm : many ≤ 1000) (hc : cnt ≤ 1000) (x5 : Sl) (o5 : okSt x5 = true) : ∃ (ls : List (List (List Int))) (ds' : List Int) (x : Sl), okSt x = true ∧ Locks cnt ls ∧ ls.length = many ∧ evalS cl wf b6_2t_1 [.pm (il ds), .im (.int many), .im (.int cnt), .mu [], .mu ks, x5, .un, .un, .un, .un, .un] = some (.nx [.pm (il ds'), .im (.int many), .im (.int cnt), .mu (ls.map tL), .mu ks, x, .un, .un, .un, .un, .un]) := by
  have hb : bnd (many : Int) = true := by unfold bnd; simp only [Bool.and_eq_true, decide_eq_true_eq]; omega
  obtain ⟨e', h1, ls, ds', x, rfl, hx, hk, hl⟩ := for_run (cl := cl) (wf := wf) (tg := .name 5) (it := .r1 (.var 1)) (body := b6_2t_1b) (env := [.pm (il ds), .im (.int many), .im (.int cnt), .mu [], .mu ks, x5, .un, .un, .un, .un, .un]) (b := none) (e1 := [.pm (il ds), .im (.int many), .im (.int cnt), .mu [], .mu ks, x5, .un, .un, .un, .un, .un]) (ds := rng1 many)
    (fun i e => ∃ (ls : List (List (List Int))) (ds' : List Int) (x : Sl), e = [.pm (il ds'), .im (.int many), .im (.int cnt), .mu (ls.map tL), .mu ks, x, .un, .un, .un, .un, .un] ∧ okSt x = true ∧ Locks cnt ls ∧ ls.length = i) (by simp [evalSs, evalS.eq_1, evalS.eq_2, evalS.eq_3, evalS.eq_4, evalS.eq_5, evalS.eq_6, evalS.eq_7, evalS.eq_8, evalS.eq_9, evalS.eq_12, evalS.eq_13, evalS.eq_14, evalE.eq_1, evalE.eq_2, evalE.eq_3, evalE.eq_4, evalE.eq_5, evalE.eq_6, evalE.eq_7, evalE.eq_8, evalE.eq_9, evalE.eq_10, evalE.eq_11, evalE.eq_12, evalE.eq_13, evalE.eq_14, evalE.eq_15, evalE.eq_17, evalE.eq_18, evalE.eq_19, evalE.eq_20, evalE.eq_21, evalE.eq_22, evalE.eq_25, evalEs, evalO, evalC, evalIt, evI, evB_v, evB_cN, evB_cB, evB_cI, evB_cS, evB_bin, evB_chain, evB_neg, evB_not, evB_and, evB_or, evB_ite, evB_tup, evB_lst, evB_sli, evB_call, evB_bi, evB_birng, evB_pop, evB_isi, evB_comp, evB_comp2, evB_sset, bval_s, evVar, getS, RV.d, resB, slD, bi1, lenD, opB, op2, tst, andE, orE, asgN, asgs, asgR_d, asgR_n, asgT_n, asgT_t, asgR_t, nxO_s, seqO_nx, seqO_rt, seqO_bk, seqO_ct, okSt_un, okSt_im, okSt_mu, cellD_un, cellD_im, cellD_mu, cellD_pm, cellD_bo, setAt, appAt, revAt, augAt, augD, retE_v, retE_cN, retE_cB, retE_cI, retE_cS, retE_bin, retE_chain, retE_neg, retE_not, retE_and, retE_or, retE_ite, retE_tup, retE_lst, retE_sli, retE_call, retE_bi, retE_birng, retE_pop, retE_isi, retE_comp, retE_comp2, retE_sset, rval_s, shal_int, eqv_int, hb]) ⟨[], ds, x5, rfl, o5, fun x hx => (by cases hx), rfl⟩ fun i y e hy ⟨ls, ds', x, he, hx, hk, hl⟩ => by
      subst he
      obtain ⟨hi, rfl⟩ := rng_get hy
      obtain ⟨l, ds2, k1, k2, k3⟩ := row_lc (cl := cl) m3 ht (p := .int many) (ds := ds') (ls := ls.map tL) (ks := ks) (x5 := .im (.int i)) hc
      have hl2 : ls.length < 16777216 := by omega
      exact ⟨[.pm (il ds'), .im (.int many), .im (.int cnt), .mu (ls.map tL), .mu ks, .im (.int i), .un, .un, .un, .un, .un], by simp [evalSs, evalS.eq_1, evalS.eq_2, evalS.eq_3, evalS.eq_4, evalS.eq_5, evalS.eq_6, evalS.eq_7, evalS.eq_8, evalS.eq_9, evalS.eq_12, evalS.eq_13, evalS.eq_14, evalE.eq_1, evalE.eq_2, evalE.eq_3, evalE.eq_4, evalE.eq_5, evalE.eq_6, evalE.eq_7, evalE.eq_8, evalE.eq_9, evalE.eq_10, evalE.eq_11, evalE.eq_12, evalE.eq_13, evalE.eq_14, evalE.eq_15, evalE.eq_17, evalE.eq_18, evalE.eq_19, evalE.eq_20, evalE.eq_21, evalE.eq_22, evalE.eq_25, evalEs, evalO, evalC, evalIt, evI, evB_v, evB_cN, evB_cB, evB_cI, evB_cS, evB_bin, evB_chain, evB_neg, evB_not, evB_and, evB_or, evB_ite, evB_tup, evB_lst, evB_sli, evB_call, evB_bi, evB_birng, evB_pop, evB_isi, evB_comp, evB_comp2, evB_sset, bval_s, evVar, getS, RV.d, resB, slD, bi1, lenD, opB, op2, tst, andE, orE, asgN, asgs, asgR_d, asgR_n, asgT_n, asgT_t, asgR_t, nxO_s, seqO_nx, seqO_rt, seqO_bk, seqO_ct, okSt_un, okSt_im, okSt_mu, cellD_un, cellD_im, cellD_mu, cellD_pm, cellD_bo, setAt, appAt, revAt, augAt, augD, retE_v, retE_cN, retE_cB, retE_cI, retE_cS, retE_bin, retE_chain, retE_neg, retE_not, retE_and, retE_or, retE_ite, retE_tup, retE_lst, retE_sli, retE_call, retE_bi, retE_birng, retE_pop, retE_isi, retE_comp, retE_comp2, retE_sset, rval_s, shal_int, eqv_int, hx], [.pm (il ds2), .im (.int many), .im (.int cnt), .mu ((ls ++ [l]).map tL), .mu ks, .im (.int i), .un, .un, .un, .un, .un], .inl (by simp [b6_2t_1b, b6_2t_1b_0, evalSs, evalS.eq_1, evalS.eq_2, evalS.eq_3, evalS.eq_4, evalS.eq_5, evalS.eq_6, evalS.eq_7, evalS.eq_8, evalS.eq_9, evalS.eq_12, evalS.eq_13, evalS.eq_14, evalE.eq_1, evalE.eq_2, evalE.eq_3, evalE.eq_4, evalE.eq_5, evalE.eq_6, evalE.eq_7, evalE.eq_8, evalE.eq_9, evalE.eq_10, evalE.eq_11, evalE.eq_12, evalE.eq_13, evalE.eq_14, evalE.eq_15, evalE.eq_17, evalE.eq_18, evalE.eq_19, evalE.eq_20, evalE.eq_21, evalE.eq_22, evalE.eq_25, evalEs, evalO, evalC, evalIt, evI, evB_v, evB_cN, evB_cB, evB_cI, evB_cS, evB_bin, evB_chain, evB_neg, evB_not, evB_and, evB_or, evB_ite, evB_tup, evB_lst, evB_sli, evB_call, evB_bi, evB_birng, evB_pop, evB_isi, evB_comp, evB_comp2, evB_sset, bval_s, evVar, getS, RV.d, resB, slD, bi1, lenD, opB, op2, tst, andE, orE, asgN, asgs, asgR_d, asgR_n, asgT_n, asgT_t, asgR_t, nxO_s, seqO_nx, seqO_rt, seqO_bk, seqO_ct, okSt_un, okSt_im, okSt_mu, cellD_un, cellD_im, cellD_mu, cellD_pm, cellD_bo, setAt, appAt, revAt, augAt, augD, retE_v, retE_cN, retE_cB, retE_cI, retE_cS, retE_bin, retE_chain, retE_neg, retE_not, retE_and, retE_or, retE_ite, retE_tup, retE_lst, retE_sli, retE_call, retE_bi, retE_birng, retE_pop, retE_isi, retE_comp, retE_comp2, retE_sset, rval_s, shal_int, eqv_int, k3, seqOf, hl2]), ls ++ [l], ds2, .im (.int i), rfl, rfl, hk.app k1 k2, by simp [hl]⟩
  exact ⟨ls, ds', x, hx, hk, by rw [hl]; simp [rng1], h1⟩
theorem f0 (m3 : cl.md 3 = [true, false]) (ht : Takes cl) (ds : List Int) (p q : PyData) : ∃ (c : Nat) (ds' : List Int), 0 < c ∧ c ≤ 12 ∧ evalS cl wf b6_2f_0 [.pm (il ds), .im p, .im q, .mu [], .mu [], .un, .un, .un, .un, .un, .un] = some (.nx [.pm (il ds'), .im p, .im q, .mu [], .mu [], .un, .un, .im (.int c), .un, .un, .un]) := by
  obtain ⟨v1, d1, t1, l1⟩ := ht ds 3 (by omega)
  obtain ⟨w, hw, p1, p2⟩ := pick (ws := [2, 3, 12]) (j := v1) (by show v1 < 3; omega)
  have hw2 : 0 < w ∧ w ≤ 12 := by
    simp only [List.mem_cons, List.mem_nil_iff, or_false] at hw
    omega
  obtain ⟨v2, d2, t2, l2⟩ := ht d1 w hw2.1
  simp only [il, List.map_cons, List.map_nil, List.length_cons, List.length_nil] at p1 p2
  refine ⟨1 + v2, d2, by omega, by omega, ?_⟩
  simp [b6_2f_0, evalE.eq_16, evalA, evAV_v, evAV_cN, evAV_cB, evAV_cI, evAV_cS, evAV_bin, evAV_chain, evAV_neg, evAV_not, evAV_and, evAV_or, evAV_ite, evAV_tup, evAV_lst, evAV_sli, evAV_call, evAV_bi, evAV_birng, evAV_pop, evAV_isi, evAV_comp, evAV_comp2, evAV_sset, aval_s, callE, cellsA, borsA, cargs, setCs, setC, nodupB, evalSs, evalS.eq_1, evalS.eq_2, evalS.eq_3, evalS.eq_4, evalS.eq_5, evalS.eq_6, evalS.eq_7, evalS.eq_8, evalS.eq_9, evalS.eq_12, evalS.eq_13, evalS.eq_14, evalE.eq_1, evalE.eq_2, evalE.eq_3, evalE.eq_4, evalE.eq_5, evalE.eq_6, evalE.eq_7, evalE.eq_8, evalE.eq_9, evalE.eq_10, evalE.eq_11, evalE.eq_12, evalE.eq_13, evalE.eq_14, evalE.eq_15, evalE.eq_17, evalE.eq_18, evalE.eq_19, evalE.eq_20, evalE.eq_21, evalE.eq_22, evalE.eq_25, evalEs, evalO, evalC, evalIt, evI, evB_v, evB_cN, evB_cB, evB_cI, evB_cS, evB_bin, evB_chain, evB_neg, evB_not, evB_and, evB_or, evB_ite, evB_tup, evB_lst, evB_sli, evB_call, evB_bi, evB_birng, evB_pop, evB_isi, evB_comp, evB_comp2, evB_sset, bval_s, evVar, getS, RV.d, resB, slD, bi1, lenD, opB, op2, tst, andE, orE, asgN, asgs, asgR_d, asgR_n, asgT_n, asgT_t, asgR_t, nxO_s, seqO_nx, seqO_rt, seqO_bk, seqO_ct, okSt_un, okSt_im, okSt_mu, cellD_un, cellD_im, cellD_mu, cellD_pm, cellD_bo, setAt, appAt, revAt, augAt, augD, retE_v, retE_cN, retE_cB, retE_cI, retE_cS, retE_bin, retE_chain, retE_neg, retE_not, retE_and, retE_or, retE_ite, retE_tup, retE_lst, retE_sli, retE_call, retE_bi, retE_birng, retE_pop, retE_isi, retE_comp, retE_comp2, retE_sset, rval_s, shal_int, eqv_int, m3, t1, t2, p1, p2]
theorem f1 (m3 : cl.md 3 = [true, false]) (ht : Takes cl) (ds : List Int) (p q r : PyData) : ∃ (c : Nat) (ds' : List Int), 0 < c ∧ evalS cl wf b6_2f_1 [.pm (il ds), .im p, .im q, .mu [], .mu [], .un, .un, .im r, .un, .un, .un] = some (.nx [.pm (il ds'), .im p, .im q, .mu [], .mu [], .un, .un, .im r, .im (.int c), .un, .un]) := by
  obtain ⟨v1, d1, t1, l1⟩ := ht ds 3 (by omega)
  obtain ⟨w, hw, p1, p2⟩ := pick (ws := [2, 3, 11]) (j := v1) (by show v1 < 3; omega)
  have hw2 : 0 < w := by
    simp only [List.mem_cons, List.mem_nil_iff, or_false] at hw
    omega
  obtain ⟨v2, d2, t2, l2⟩ := ht d1 w hw2
  simp only [il, List.map_cons, List.map_nil, List.length_cons, List.length_nil] at p1 p2
  refine ⟨2 + v2, d2, by omega, ?_⟩
  simp [b6_2f_1, evalE.eq_16, evalA, evAV_v, evAV_cN, evAV_cB, evAV_cI, evAV_cS, evAV_bin, evAV_chain, evAV_neg, evAV_not, evAV_and, evAV_or, evAV_ite, evAV_tup, evAV_lst, evAV_sli, evAV_call, evAV_bi, evAV_birng, evAV_pop, evAV_isi, evAV_comp, evAV_comp2, evAV_sset, aval_s, callE, cellsA, borsA, cargs, setCs, setC, nodupB, evalSs, evalS.eq_1, evalS.eq_2, evalS.eq_3, evalS.eq_4, evalS.eq_5, evalS.eq_6, evalS.eq_7, evalS.eq_8, evalS.eq_9, evalS.eq_12, evalS.eq_13, evalS.eq_14, evalE.eq_1, evalE.eq_2, evalE.eq_3, evalE.eq_4, evalE.eq_5, evalE.eq_6, evalE.eq_7, evalE.eq_8, evalE.eq_9, evalE.eq_10, evalE.eq_11, evalE.eq_12, evalE.eq_13, evalE.eq_14, evalE.eq_15, evalE.eq_17, evalE.eq_18, evalE.eq_19, evalE.eq_20, evalE.eq_21, evalE.eq_22, evalE.eq_25, evalEs, evalO, evalC, evalIt, evI, evB_v, evB_cN, evB_cB, evB_cI, evB_cS, evB_bin, evB_chain, evB_neg, evB_not, evB_and, evB_or, evB_ite, evB_tup, evB_lst, evB_sli, evB_call, evB_bi, evB_birng, evB_pop, evB_isi, evB_comp, evB_comp2, evB_sset, bval_s, evVar, getS, RV.d, resB, slD, bi1, lenD, opB, op2, tst, andE, orE, asgN, asgs, asgR_d, asgR_n, asgT_n, asgT_t, asgR_t, nxO_s, seqO_nx, seqO_rt, seqO_bk, seqO_ct, okSt_un, okSt_im, okSt_mu, cellD_un, cellD_im, cellD_mu, cellD_pm, cellD_bo, setAt, appAt, revAt, augAt, augD, retE_v, retE_cN, retE_cB, retE_cI, retE_cS, retE_bin, retE_chain, retE_neg, retE_not, retE_and, retE_or, retE_ite, retE_tup, retE_lst, retE_sli, retE_call, retE_bi, retE_birng, retE_pop, retE_isi, retE_comp, retE_comp2, retE_sset, rval_s, shal_int, eqv_int, m3, t1, t2, p1, p2]
abbrev Lets (cl : CL) : Prop := ∀ (ds : List Int) (d : Nat), 0 < d → ∃ cs ds', 0 < cs.length ∧ cs.length ≤ 3 ∧ cl.run 5 [.cell (il ds), .im (.int d)] = some (.dat (tK cs), [il ds'])
theorem lrow_lc (m5 : cl.md 5 = [true, false]) (hL : Lets cl) {p q : PyData} {ds : List Int} {c d : Nat} {ls ks : List PyData} {x5 x9 x10 : Sl} (hc : c ≤ 1000) (hd : 0 < d) : ∃ (l : List (List Int)) (ds' : List Int), l.length = c ∧ (∀ cs ∈ l, 0 < cs.length) ∧
    evalE cl (.comp (.call 5 (.cons (.var 0) (.cons (.var 8) .nil))) (.name 6) (.r1 (.var 7)) .none [6]) [.pm (il ds), .im p, .im q, .mu ls, .mu ks, x5, .un, .im (.int c), .im (.int d), x9, x10] = some (.new (l.map tK), [.pm (il ds'), .im p, .im q, .mu ls, .mu ks, x5, .un, .im (.int c), .im (.int d), x9, x10]) := by
  have hb : bnd (c : Int) = true := by unfold bnd; simp only [Bool.and_eq_true, decide_eq_true_eq]; omega
  obtain ⟨rs, ds', h1, l, h2, h3, h4⟩ := comp1S (α := List Int) (cl := cl) (elt := .call 5 (.cons (.var 0) (.cons (.var 8) .nil))) (it := .r1 (.var 7)) (c := .none) (v := 6) (env := [.pm (il ds), .im p, .im q, .mu ls, .mu ks, x5, .un, .im (.int c), .im (.int d), x9, x10]) (e1 := [.pm (il ds), .im p, .im q, .mu ls, .mu ks, x5, .un, .im (.int c), .im (.int d), x9, x10]) (ds := rng1 c) (b := none) (fun s => [.pm (il s), .im p, .im q, .mu ls, .mu ks, x5, .un, .im (.int c), .im (.int d), x9, x10])
    (fun i acc _ => ∃ l : List (List Int), acc = l.map tK ∧ l.length = i ∧ ∀ cs ∈ l, 0 < cs.length) ds (by simp [evalSs, evalS.eq_1, evalS.eq_2, evalS.eq_3, evalS.eq_4, evalS.eq_5, evalS.eq_6, evalS.eq_7, evalS.eq_8, evalS.eq_9, evalS.eq_12, evalS.eq_13, evalS.eq_14, evalE.eq_1, evalE.eq_2, evalE.eq_3, evalE.eq_4, evalE.eq_5, evalE.eq_6, evalE.eq_7, evalE.eq_8, evalE.eq_9, evalE.eq_10, evalE.eq_11, evalE.eq_12, evalE.eq_13, evalE.eq_14, evalE.eq_15, evalE.eq_17, evalE.eq_18, evalE.eq_19, evalE.eq_20, evalE.eq_21, evalE.eq_22, evalE.eq_25, evalEs, evalO, evalC, evalIt, evI, evB_v, evB_cN, evB_cB, evB_cI, evB_cS, evB_bin, evB_chain, evB_neg, evB_not, evB_and, evB_or, evB_ite, evB_tup, evB_lst, evB_sli, evB_call, evB_bi, evB_birng, evB_pop, evB_isi, evB_comp, evB_comp2, evB_sset, bval_s, evVar, getS, RV.d, resB, slD, bi1, lenD, opB, op2, tst, andE, orE, asgN, asgs, asgR_d, asgR_n, asgT_n, asgT_t, asgR_t, nxO_s, seqO_nx, seqO_rt, seqO_bk, seqO_ct, okSt_un, okSt_im, okSt_mu, cellD_un, cellD_im, cellD_mu, cellD_pm, cellD_bo, setAt, appAt, revAt, augAt, augD, retE_v, retE_cN, retE_cB, retE_cI, retE_cS, retE_bin, retE_chain, retE_neg, retE_not, retE_and, retE_or, retE_ite, retE_tup, retE_lst, retE_sli, retE_call, retE_bi, retE_birng, retE_pop, retE_isi, retE_comp, retE_comp2, retE_sset, rval_s, shal_int, eqv_int, hb]) (fun z => nomatch z) rfl (by simp) (fun _ => rfl) rfl (fun _ => rfl) ⟨[], rfl, rfl, fun x hx => (by cases hx)⟩ (fun i y acc s hy ⟨l, ha, hl, hp⟩ => by
      obtain ⟨cs, s', c1, _, c2⟩ := hL s d hd
      refine ⟨s, .inl ⟨.dat (tK cs), s', rfl, by simp [evalE.eq_16, evalA, evAV_v, evAV_cN, evAV_cB, evAV_cI, evAV_cS, evAV_bin, evAV_chain, evAV_neg, evAV_not, evAV_and, evAV_or, evAV_ite, evAV_tup, evAV_lst, evAV_sli, evAV_call, evAV_bi, evAV_birng, evAV_pop, evAV_isi, evAV_comp, evAV_comp2, evAV_sset, aval_s, callE, cellsA, borsA, cargs, setCs, setC, nodupB, evalSs, evalS.eq_1, evalS.eq_2, evalS.eq_3, evalS.eq_4, evalS.eq_5, evalS.eq_6, evalS.eq_7, evalS.eq_8, evalS.eq_9, evalS.eq_12, evalS.eq_13, evalS.eq_14, evalE.eq_1, evalE.eq_2, evalE.eq_3, evalE.eq_4, evalE.eq_5, evalE.eq_6, evalE.eq_7, evalE.eq_8, evalE.eq_9, evalE.eq_10, evalE.eq_11, evalE.eq_12, evalE.eq_13, evalE.eq_14, evalE.eq_15, evalE.eq_17, evalE.eq_18, evalE.eq_19, evalE.eq_20, evalE.eq_21, evalE.eq_22, evalE.eq_25, evalEs, evalO, evalC, evalIt, evI, evB_v, evB_cN, evB_cB, evB_cI, evB_cS, evB_bin, evB_chain, evB_neg, evB_not, evB_and, evB_or, evB_ite, evB_tup, evB_lst, evB_sli, evB_call, evB_bi, evB_birng, evB_pop, evB_isi, evB_comp, evB_comp2, evB_sset, bval_s, evVar, getS, RV.d, resB, slD, bi1, lenD, opB, op2, tst, andE, orE, asgN, asgs, asgR_d, asgR_n, asgT_n, asgT_t, asgR_t, nxO_s, seqO_nx, seqO_rt, seqO_bk, seqO_ct, okSt_un, okSt_im, okSt_mu, cellD_un, cellD_im, cellD_mu, cellD_pm, cellD_bo, setAt, appAt, revAt, augAt, augD, retE_v, retE_cN, retE_cB, retE_cI, retE_cS, retE_bin, retE_chain, retE_neg, retE_not, retE_and, retE_or, retE_ite, retE_tup, retE_lst, retE_sli, retE_call, retE_bi, retE_birng, retE_pop, retE_isi, retE_comp, retE_comp2, retE_sset, rval_s, shal_int, eqv_int, m5, c2], l ++ [cs], by rw [ha]; simp [RV.d], by simp [hl], fun x hx => ?_⟩⟩
      rcases List.mem_append.mp hx with q | q
      · exact hp x q
      · rw [List.mem_singleton.mp q]; exact c1) (fun rs s ⟨l, ha, hl, _⟩ => by rw [ha, List.length_map, hl]; simp [rng1]; omega)
  exact ⟨l, ds', by rw [h3]; simp [rng1], h4, by rw [h1, h2]; rfl⟩
theorem f2 (m5 : cl.md 5 = [true, false]) (hL : Lets cl) (ds : List Int) (many c d : Nat) (q : PyData) (ks : List PyData) (hm : many ≤ 1000) (hc : c ≤ 1000) (hd : 0 < d) : ∃ (ls : List (List (List Int))) (ds' : List Int) (x : Sl), okSt x = true ∧ Locks c ls ∧ ls.length = many ∧ evalS cl wf b6_2f_2 [.pm (il ds), .im (.int many), .im q, .mu [], .mu ks, .un, .un, .im (.int c), .im (.int d), .un, .un] = some (.nx [.pm (il ds'), .im (.int many), .im q, .mu (ls.map tL), .mu ks, x, .un, .im (.int c), .im (.int d), .un, .un]) := by
  have hb : bnd (many : Int) = true := by unfold bnd; simp only [Bool.and_eq_true, decide_eq_true_eq]; omega
  obtain ⟨e', h1, ls, ds', x, rfl, hx, hk, hl⟩ := for_run (cl := cl) (wf := wf) (tg := .name 5) (it := .r1 (.var 1)) (body := b6_2f_2b) (env := [.pm (il ds), .im (.int many), .im q, .mu [], .mu ks, .un, .un, .im (.int c), .im (.int d), .un, .un]) (b := none) (e1 := [.pm (il ds), .im (.int many), .im q, .mu [], .mu ks, .un, .un, .im (.int c), .im (.int d), .un, .un]) (ds := rng1 many)
    (fun i e => ∃ (ls : List (List (List Int))) (ds' : List Int) (x : Sl), e = [.pm (il ds'), .im (.int many), .im q, .mu (ls.map tL), .mu ks, x, .un, .im (.int c), .im (.int d), .un, .un] ∧ okSt x = true ∧ Locks c ls ∧ ls.length = i) (by simp [evalSs, evalS.eq_1, evalS.eq_2, evalS.eq_3, evalS.eq_4, evalS.eq_5, evalS.eq_6, evalS.eq_7, evalS.eq_8, evalS.eq_9, evalS.eq_12, evalS.eq_13, evalS.eq_14, evalE.eq_1, evalE.eq_2, evalE.eq_3, evalE.eq_4, evalE.eq_5, evalE.eq_6, evalE.eq_7, evalE.eq_8, evalE.eq_9, evalE.eq_10, evalE.eq_11, evalE.eq_12, evalE.eq_13, evalE.eq_14, evalE.eq_15, evalE.eq_17, evalE.eq_18, evalE.eq_19, evalE.eq_20, evalE.eq_21, evalE.eq_22, evalE.eq_25, evalEs, evalO, evalC, evalIt, evI, evB_v, evB_cN, evB_cB, evB_cI, evB_cS, evB_bin, evB_chain, evB_neg, evB_not, evB_and, evB_or, evB_ite, evB_tup, evB_lst, evB_sli, evB_call, evB_bi, evB_birng, evB_pop, evB_isi, evB_comp, evB_comp2, evB_sset, bval_s, evVar, getS, RV.d, resB, slD, bi1, lenD, opB, op2, tst, andE, orE, asgN, asgs, asgR_d, asgR_n, asgT_n, asgT_t, asgR_t, nxO_s, seqO_nx, seqO_rt, seqO_bk, seqO_ct, okSt_un, okSt_im, okSt_mu, cellD_un, cellD_im, cellD_mu, cellD_pm, cellD_bo, setAt, appAt, revAt, augAt, augD, retE_v, retE_cN, retE_cB, retE_cI, retE_cS, retE_bin, retE_chain, retE_neg, retE_not, retE_and, retE_or, retE_ite, retE_tup, retE_lst, retE_sli, retE_call, retE_bi, retE_birng, retE_pop, retE_isi, retE_comp, retE_comp2, retE_sset, rval_s, shal_int, eqv_int, hb]) ⟨[], ds, .un, rfl, rfl, fun x hx => (by cases hx), rfl⟩ fun i y e hy ⟨ls, ds', x, he, hx, hk, hl⟩ => by
      subst he
      obtain ⟨hi, rfl⟩ := rng_get hy
      obtain ⟨l, ds2, k1, k2, k3⟩ := lrow_lc (cl := cl) m5 hL (p := .int many) (q := q) (ds := ds') (ls := ls.map tL) (ks := ks) (x5 := .im (.int i)) (x9 := .un) (x10 := .un) hc hd
      have hl2 : ls.length < 16777216 := by omega
      exact ⟨[.pm (il ds'), .im (.int many), .im q, .mu (ls.map tL), .mu ks, .im (.int i), .un, .im (.int c), .im (.int d), .un, .un], by simp [evalSs, evalS.eq_1, evalS.eq_2, evalS.eq_3, evalS.eq_4, evalS.eq_5, evalS.eq_6, evalS.eq_7, evalS.eq_8, evalS.eq_9, evalS.eq_12, evalS.eq_13, evalS.eq_14, evalE.eq_1, evalE.eq_2, evalE.eq_3, evalE.eq_4, evalE.eq_5, evalE.eq_6, evalE.eq_7, evalE.eq_8, evalE.eq_9, evalE.eq_10, evalE.eq_11, evalE.eq_12, evalE.eq_13, evalE.eq_14, evalE.eq_15, evalE.eq_17, evalE.eq_18, evalE.eq_19, evalE.eq_20, evalE.eq_21, evalE.eq_22, evalE.eq_25, evalEs, evalO, evalC, evalIt, evI, evB_v, evB_cN, evB_cB, evB_cI, evB_cS, evB_bin, evB_chain, evB_neg, evB_not, evB_and, evB_or, evB_ite, evB_tup, evB_lst, evB_sli, evB_call, evB_bi, evB_birng, evB_pop, evB_isi, evB_comp, evB_comp2, evB_sset, bval_s, evVar, getS, RV.d, resB, slD, bi1, lenD, opB, op2, tst, andE, orE, asgN, asgs, asgR_d, asgR_n, asgT_n, asgT_t, asgR_t, nxO_s, seqO_nx, seqO_rt, seqO_bk, seqO_ct, okSt_un, okSt_im, okSt_mu, cellD_un, cellD_im, cellD_mu, cellD_pm, cellD_bo, setAt, appAt, revAt, augAt, augD, retE_v, retE_cN, retE_cB, retE_cI, retE_cS, retE_bin, retE_chain, retE_neg, retE_not, retE_and, retE_or, retE_ite, retE_tup, retE_lst, retE_sli, retE_call, retE_bi, retE_birng, retE_pop, retE_isi, retE_comp, retE_comp2, retE_sset, rval_s, shal_int, eqv_int, hx], [.pm (il ds2), .im (.int many), .im q, .mu ((ls ++ [l]).map tL), .mu ks, .im (.int i), .un, .im (.int c), .im (.int d), .un, .un], .inl (by simp [b6_2f_2b, b6_2f_2b_0, evalSs, evalS.eq_1, evalS.eq_2, evalS.eq_3, evalS.eq_4, evalS.eq_5, evalS.eq_6, evalS.eq_7, evalS.eq_8, evalS.eq_9, evalS.eq_12, evalS.eq_13, evalS.eq_14, evalE.eq_1, evalE.eq_2, evalE.eq_3, evalE.eq_4, evalE.eq_5, evalE.eq_6, evalE.eq_7, evalE.eq_8, evalE.eq_9, evalE.eq_10, evalE.eq_11, evalE.eq_12, evalE.eq_13, evalE.eq_14, evalE.eq_15, evalE.eq_17, evalE.eq_18, evalE.eq_19, evalE.eq_20, evalE.eq_21, evalE.eq_22, evalE.eq_25, evalEs, evalO, evalC, evalIt, evI, evB_v, evB_cN, evB_cB, evB_cI, evB_cS, evB_bin, evB_chain, evB_neg, evB_not, evB_and, evB_or, evB_ite, evB_tup, evB_lst, evB_sli, evB_call, evB_bi, evB_birng, evB_pop, evB_isi, evB_comp, evB_comp2, evB_sset, bval_s, evVar, getS, RV.d, resB, slD, bi1, lenD, opB, op2, tst, andE, orE, asgN, asgs, asgR_d, asgR_n, asgT_n, asgT_t, asgR_t, nxO_s, seqO_nx, seqO_rt, seqO_bk, seqO_ct, okSt_un, okSt_im, okSt_mu, cellD_un, cellD_im, cellD_mu, cellD_pm, cellD_bo, setAt, appAt, revAt, augAt, augD, retE_v, retE_cN, retE_cB, retE_cI, retE_cS, retE_bin, retE_chain, retE_neg, retE_not, retE_and, retE_or, retE_ite, retE_tup, retE_lst, retE_sli, retE_call, retE_bi, retE_birng, retE_pop, retE_isi, retE_comp, retE_comp2, retE_sset, rval_s, shal_int, eqv_int, k3, seqOf, hl2]), ls ++ [l], ds2, .im (.int i), rfl, rfl, hk.app k1 k2, by simp [hl]⟩
  exact ⟨ls, ds', x, hx, hk, by rw [hl]; simp [rng1], h1⟩
theorem key_turn (m3 : cl.md 3 = [true, false]) (ht : Takes cl) (ds : List Int) (p q : PyData) (ls ks : List PyData) (l : List (List Int)) (ky : List Int) (c d i : Nat) (x5 : Sl) (hl : l.length = c) (hp : ∀ cs ∈ l, 0 < cs.length) (hd : 0 < d) (hi : i < c) (hk : ky.length = i) (hc : c ≤ 1000) :
    ∃ u ds', evalSs cl wf b6_2f_3b_2b [.pm (il ds), .im p, .im q, .mu ls, .mu ks, x5, .im (.int i), .im (.int c), .im (.int d), .im (tL l), .mu (il ky)] = some (.nx [.pm (il ds'), .im p, .im q, .mu ls, .mu ks, x5, .im (.int i), .im (.int c), .im (.int d), .im (tL l), .mu (il (ky ++ [u]))]) := by
  obtain ⟨cs, g1⟩ : ∃ x, l[i]? = some x := ⟨_, List.getElem?_eq_getElem (by omega)⟩
  have hcs := hp cs (List.mem_of_getElem? g1)
  obtain ⟨v1, d1, t1, l1⟩ := ht ds cs.length (by omega)
  obtain ⟨v2, d2, t2, l2⟩ := ht d1 d (by omega)
  obtain ⟨v3, d3, t3, l3⟩ := ht d2 4 (by omega)
  have j1 : ixn l.length (i : Int) = some i := ixn_nat (by omega)
  have j2 : ixn cs.length (v1 : Int) = some v1 := ixn_nat (by omega)
  obtain ⟨y, g2⟩ : ∃ x, cs[v1]? = some x := ⟨_, List.getElem?_eq_getElem (by omega)⟩
  have hl2 : ky.length < 16777216 := by omega
  have k0 : ixn 2 0 = some 0 := rfl
  have k1 : ixn 2 1 = some 1 := rfl
  by_cases z : v3 = 0
  · subst z
    refine ⟨(v2 : Int), d3, ?_⟩
    simp only [Int.natCast_zero] at t3
    simp [b6_2f_3b_2b, b6_2f_3b_2b_0, evalE.eq_16, evalA, evAV_v, evAV_cN, evAV_cB, evAV_cI, evAV_cS, evAV_bin, evAV_chain, evAV_neg, evAV_not, evAV_and, evAV_or, evAV_ite, evAV_tup, evAV_lst, evAV_sli, evAV_call, evAV_bi, evAV_birng, evAV_pop, evAV_isi, evAV_comp, evAV_comp2, evAV_sset, aval_s, callE, cellsA, borsA, cargs, setCs, setC, nodupB, evalSs, evalS.eq_1, evalS.eq_2, evalS.eq_3, evalS.eq_4, evalS.eq_5, evalS.eq_6, evalS.eq_7, evalS.eq_8, evalS.eq_9, evalS.eq_12, evalS.eq_13, evalS.eq_14, evalE.eq_1, evalE.eq_2, evalE.eq_3, evalE.eq_4, evalE.eq_5, evalE.eq_6, evalE.eq_7, evalE.eq_8, evalE.eq_9, evalE.eq_10, evalE.eq_11, evalE.eq_12, evalE.eq_13, evalE.eq_14, evalE.eq_15, evalE.eq_17, evalE.eq_18, evalE.eq_19, evalE.eq_20, evalE.eq_21, evalE.eq_22, evalE.eq_25, evalEs, evalO, evalC, evalIt, evI, evB_v, evB_cN, evB_cB, evB_cI, evB_cS, evB_bin, evB_chain, evB_neg, evB_not, evB_and, evB_or, evB_ite, evB_tup, evB_lst, evB_sli, evB_call, evB_bi, evB_birng, evB_pop, evB_isi, evB_comp, evB_comp2, evB_sset, bval_s, evVar, getS, RV.d, resB, slD, bi1, lenD, opB, op2, tst, andE, orE, asgN, asgs, asgR_d, asgR_n, asgT_n, asgT_t, asgR_t, nxO_s, seqO_nx, seqO_rt, seqO_bk, seqO_ct, okSt_un, okSt_im, okSt_mu, cellD_un, cellD_im, cellD_mu, cellD_pm, cellD_bo, setAt, appAt, revAt, augAt, augD, retE_v, retE_cN, retE_cB, retE_cI, retE_cS, retE_bin, retE_chain, retE_neg, retE_not, retE_and, retE_or, retE_ite, retE_tup, retE_lst, retE_sli, retE_call, retE_bi, retE_birng, retE_pop, retE_isi, retE_comp, retE_comp2, retE_sset, rval_s, shal_int, eqv_int, m3, t1, t2, t3, j1, j2, g1, g2, hl2, k1]
  · refine ⟨y, d3, ?_⟩
    simp [b6_2f_3b_2b, b6_2f_3b_2b_0, evalE.eq_16, evalA, evAV_v, evAV_cN, evAV_cB, evAV_cI, evAV_cS, evAV_bin, evAV_chain, evAV_neg, evAV_not, evAV_and, evAV_or, evAV_ite, evAV_tup, evAV_lst, evAV_sli, evAV_call, evAV_bi, evAV_birng, evAV_pop, evAV_isi, evAV_comp, evAV_comp2, evAV_sset, aval_s, callE, cellsA, borsA, cargs, setCs, setC, nodupB, evalSs, evalS.eq_1, evalS.eq_2, evalS.eq_3, evalS.eq_4, evalS.eq_5, evalS.eq_6, evalS.eq_7, evalS.eq_8, evalS.eq_9, evalS.eq_12, evalS.eq_13, evalS.eq_14, evalE.eq_1, evalE.eq_2, evalE.eq_3, evalE.eq_4, evalE.eq_5, evalE.eq_6, evalE.eq_7, evalE.eq_8, evalE.eq_9, evalE.eq_10, evalE.eq_11, evalE.eq_12, evalE.eq_13, evalE.eq_14, evalE.eq_15, evalE.eq_17, evalE.eq_18, evalE.eq_19, evalE.eq_20, evalE.eq_21, evalE.eq_22, evalE.eq_25, evalEs, evalO, evalC, evalIt, evI, evB_v, evB_cN, evB_cB, evB_cI, evB_cS, evB_bin, evB_chain, evB_neg, evB_not, evB_and, evB_or, evB_ite, evB_tup, evB_lst, evB_sli, evB_call, evB_bi, evB_birng, evB_pop, evB_isi, evB_comp, evB_comp2, evB_sset, bval_s, evVar, getS, RV.d, resB, slD, bi1, lenD, opB, op2, tst, andE, orE, asgN, asgs, asgR_d, asgR_n, asgT_n, asgT_t, asgR_t, nxO_s, seqO_nx, seqO_rt, seqO_bk, seqO_ct, okSt_un, okSt_im, okSt_mu, cellD_un, cellD_im, cellD_mu, cellD_pm, cellD_bo, setAt, appAt, revAt, augAt, augD, retE_v, retE_cN, retE_cB, retE_cI, retE_cS, retE_bin, retE_chain, retE_neg, retE_not, retE_and, retE_or, retE_ite, retE_tup, retE_lst, retE_sli, retE_call, retE_bi, retE_birng, retE_pop, retE_isi, retE_comp, retE_comp2, retE_sset, rval_s, shal_int, eqv_int, m3, t1, t2, t3, j1, j2, g1, g2, hl2, z, k0]
theorem keys_in (m3 : cl.md 3 = [true, false]) (ht : Takes cl) (ds : List Int) (p q : PyData) (ls ks : List PyData) (l : List (List Int)) (c d : Nat) (x5 x6 : Sl) (hl : l.length = c) (hp : ∀ cs ∈ l, 0 < cs.length) (hd : 0 < d) (hc : c ≤ 1000) (o6 : okSt x6 = true) :
    ∃ ky ds' x, okSt x = true ∧ ky.length = c ∧ evalS cl wf b6_2f_3b_2 [.pm (il ds), .im p, .im q, .mu ls, .mu ks, x5, x6, .im (.int c), .im (.int d), .im (tL l), .mu []] = some (.nx [.pm (il ds'), .im p, .im q, .mu ls, .mu ks, x5, x, .im (.int c), .im (.int d), .im (tL l), .mu (il ky)]) := by
  have hb : bnd (c : Int) = true := by unfold bnd; simp only [Bool.and_eq_true, decide_eq_true_eq]; omega
  obtain ⟨e', h1, ky, ds', x, rfl, hx, hk⟩ := for_run (cl := cl) (wf := wf) (tg := .name 6) (it := .r1 (.var 7)) (body := b6_2f_3b_2b) (env := [.pm (il ds), .im p, .im q, .mu ls, .mu ks, x5, x6, .im (.int c), .im (.int d), .im (tL l), .mu []]) (b := none) (e1 := [.pm (il ds), .im p, .im q, .mu ls, .mu ks, x5, x6, .im (.int c), .im (.int d), .im (tL l), .mu []]) (ds := rng1 c)
    (fun i e => ∃ (ky : List Int) (ds' : List Int) (x : Sl), e = [.pm (il ds'), .im p, .im q, .mu ls, .mu ks, x5, x, .im (.int c), .im (.int d), .im (tL l), .mu (il ky)] ∧ okSt x = true ∧ ky.length = i) (by simp [evalSs, evalS.eq_1, evalS.eq_2, evalS.eq_3, evalS.eq_4, evalS.eq_5, evalS.eq_6, evalS.eq_7, evalS.eq_8, evalS.eq_9, evalS.eq_12, evalS.eq_13, evalS.eq_14, evalE.eq_1, evalE.eq_2, evalE.eq_3, evalE.eq_4, evalE.eq_5, evalE.eq_6, evalE.eq_7, evalE.eq_8, evalE.eq_9, evalE.eq_10, evalE.eq_11, evalE.eq_12, evalE.eq_13, evalE.eq_14, evalE.eq_15, evalE.eq_17, evalE.eq_18, evalE.eq_19, evalE.eq_20, evalE.eq_21, evalE.eq_22, evalE.eq_25, evalEs, evalO, evalC, evalIt, evI, evB_v, evB_cN, evB_cB, evB_cI, evB_cS, evB_bin, evB_chain, evB_neg, evB_not, evB_and, evB_or, evB_ite, evB_tup, evB_lst, evB_sli, evB_call, evB_bi, evB_birng, evB_pop, evB_isi, evB_comp, evB_comp2, evB_sset, bval_s, evVar, getS, RV.d, resB, slD, bi1, lenD, opB, op2, tst, andE, orE, asgN, asgs, asgR_d, asgR_n, asgT_n, asgT_t, asgR_t, nxO_s, seqO_nx, seqO_rt, seqO_bk, seqO_ct, okSt_un, okSt_im, okSt_mu, cellD_un, cellD_im, cellD_mu, cellD_pm, cellD_bo, setAt, appAt, revAt, augAt, augD, retE_v, retE_cN, retE_cB, retE_cI, retE_cS, retE_bin, retE_chain, retE_neg, retE_not, retE_and, retE_or, retE_ite, retE_tup, retE_lst, retE_sli, retE_call, retE_bi, retE_birng, retE_pop, retE_isi, retE_comp, retE_comp2, retE_sset, rval_s, shal_int, eqv_int, hb]) ⟨[], ds, x6, rfl, o6, rfl⟩ fun i y e hy ⟨ky, ds', x, he, hx, hk⟩ => by
      subst he
      obtain ⟨hi, rfl⟩ := rng_get hy
      obtain ⟨u, d2, k1⟩ := key_turn (wf := wf) m3 ht ds' p q ls ks l ky c d i x5 hl hp hd hi hk hc
      exact ⟨[.pm (il ds'), .im p, .im q, .mu ls, .mu ks, x5, .im (.int i), .im (.int c), .im (.int d), .im (tL l), .mu (il ky)], by simp [evalSs, evalS.eq_1, evalS.eq_2, evalS.eq_3, evalS.eq_4, evalS.eq_5, evalS.eq_6, evalS.eq_7, evalS.eq_8, evalS.eq_9, evalS.eq_12, evalS.eq_13, evalS.eq_14, evalE.eq_1, evalE.eq_2, evalE.eq_3, evalE.eq_4, evalE.eq_5, evalE.eq_6, evalE.eq_7, evalE.eq_8, evalE.eq_9, evalE.eq_10, evalE.eq_11, evalE.eq_12, evalE.eq_13, evalE.eq_14, evalE.eq_15, evalE.eq_17, evalE.eq_18, evalE.eq_19, evalE.eq_20, evalE.eq_21, evalE.eq_22, evalE.eq_25, evalEs, evalO, evalC, evalIt, evI, evB_v, evB_cN, evB_cB, evB_cI, evB_cS, evB_bin, evB_chain, evB_neg, evB_not, evB_and, evB_or, evB_ite, evB_tup, evB_lst, evB_sli, evB_call, evB_bi, evB_birng, evB_pop, evB_isi, evB_comp, evB_comp2, evB_sset, bval_s, evVar, getS, RV.d, resB, slD, bi1, lenD, opB, op2, tst, andE, orE, asgN, asgs, asgR_d, asgR_n, asgT_n, asgT_t, asgR_t, nxO_s, seqO_nx, seqO_rt, seqO_bk, seqO_ct, okSt_un, okSt_im, okSt_mu, cellD_un, cellD_im, cellD_mu, cellD_pm, cellD_bo, setAt, appAt, revAt, augAt, augD, retE_v, retE_cN, retE_cB, retE_cI, retE_cS, retE_bin, retE_chain, retE_neg, retE_not, retE_and, retE_or, retE_ite, retE_tup, retE_lst, retE_sli, retE_call, retE_bi, retE_birng, retE_pop, retE_isi, retE_comp, retE_comp2, retE_sset, rval_s, shal_int, eqv_int, hx], _, .inl k1, ky ++ [u], d2, .im (.int i), rfl, rfl, by simp [hk]⟩
  exact ⟨ky, ds', x, hx, by rw [hk]; simp [rng1], h1⟩
theorem f3 (m3 : cl.md 3 = [true, false]) (ht : Takes cl) (ds : List Int) (many cnt c d : Nat) (ls : List (List (List Int))) (x5 : Sl) (o5 : okSt x5 = true) (hm : 0 < many) (hn : cnt ≤ 1000) (hc : c ≤ 1000) (hd : 0 < d) (hL : Locks c ls) (hl : ls.length = many) :
    ∃ (ks : List (List Int)) (ds' : List Int) (e5 e6 e9 e10 : Sl), Keys c ks ∧ ks.length = cnt ∧ evalS cl wf b6_2f_3 [.pm (il ds), .im (.int many), .im (.int cnt), .mu (ls.map tL), .mu [], x5, .un, .im (.int c), .im (.int d), .un, .un] = some (.nx [.pm (il ds'), .im (.int many), .im (.int cnt), .mu (ls.map tL), .mu (ks.map tK), e5, e6, .im (.int c), .im (.int d), e9, e10]) := by
  have hb : bnd (cnt : Int) = true := by unfold bnd; simp only [Bool.and_eq_true, decide_eq_true_eq]; omega
  obtain ⟨e', h1, ks, ds', e5, e6, e9, e10, rfl, _, _, _, _, hK, hk⟩ := for_run (cl := cl) (wf := wf) (tg := .name 5) (it := .r1 (.var 2)) (body := b6_2f_3b) (env := [.pm (il ds), .im (.int many), .im (.int cnt), .mu (ls.map tL), .mu [], x5, .un, .im (.int c), .im (.int d), .un, .un]) (b := none) (e1 := [.pm (il ds), .im (.int many), .im (.int cnt), .mu (ls.map tL), .mu [], x5, .un, .im (.int c), .im (.int d), .un, .un]) (ds := rng1 cnt)
    (fun i e => ∃ (ks : List (List Int)) (ds' : List Int) (e5 e6 e9 e10 : Sl), e = [.pm (il ds'), .im (.int many), .im (.int cnt), .mu (ls.map tL), .mu (ks.map tK), e5, e6, .im (.int c), .im (.int d), e9, e10] ∧ okSt e5 = true ∧ okSt e6 = true ∧ okSt e9 = true ∧ okSt e10 = true ∧ Keys c ks ∧ ks.length = i) (by simp [evalSs, evalS.eq_1, evalS.eq_2, evalS.eq_3, evalS.eq_4, evalS.eq_5, evalS.eq_6, evalS.eq_7, evalS.eq_8, evalS.eq_9, evalS.eq_12, evalS.eq_13, evalS.eq_14, evalE.eq_1, evalE.eq_2, evalE.eq_3, evalE.eq_4, evalE.eq_5, evalE.eq_6, evalE.eq_7, evalE.eq_8, evalE.eq_9, evalE.eq_10, evalE.eq_11, evalE.eq_12, evalE.eq_13, evalE.eq_14, evalE.eq_15, evalE.eq_17, evalE.eq_18, evalE.eq_19, evalE.eq_20, evalE.eq_21, evalE.eq_22, evalE.eq_25, evalEs, evalO, evalC, evalIt, evI, evB_v, evB_cN, evB_cB, evB_cI, evB_cS, evB_bin, evB_chain, evB_neg, evB_not, evB_and, evB_or, evB_ite, evB_tup, evB_lst, evB_sli, evB_call, evB_bi, evB_birng, evB_pop, evB_isi, evB_comp, evB_comp2, evB_sset, bval_s, evVar, getS, RV.d, resB, slD, bi1, lenD, opB, op2, tst, andE, orE, asgN, asgs, asgR_d, asgR_n, asgT_n, asgT_t, asgR_t, nxO_s, seqO_nx, seqO_rt, seqO_bk, seqO_ct, okSt_un, okSt_im, okSt_mu, cellD_un, cellD_im, cellD_mu, cellD_pm, cellD_bo, setAt, appAt, revAt, augAt, augD, retE_v, retE_cN, retE_cB, retE_cI, retE_cS, retE_bin, retE_chain, retE_neg, retE_not, retE_and, retE_or, retE_ite, retE_tup, retE_lst, retE_sli, retE_call, retE_bi, retE_birng, retE_pop, retE_isi, retE_comp, retE_comp2, retE_sset, rval_s, shal_int, eqv_int, hb]) ⟨[], ds, x5, .un, .un, .un, rfl, o5, rfl, rfl, rfl, fun x hx => (by cases hx), rfl⟩ fun i y e hy ⟨ks, ds', e5, e6, e9, e10, he, o5, o6, o9, o10, hK, hk⟩ => by
      subst he
      obtain ⟨hi, rfl⟩ := rng_get hy
      obtain ⟨v, d1, t1, l1⟩ := ht ds' many (by omega)
      obtain ⟨l, g1⟩ : ∃ x, ls[v]? = some x := ⟨_, List.getElem?_eq_getElem (by omega)⟩
      have j1 : ixn ls.length (v : Int) = some v := ixn_nat (by omega)
      obtain ⟨hl1, hl2⟩ := hL l (List.mem_of_getElem? g1)
      obtain ⟨ky, d2, x6, ox, kl, q⟩ := keys_in (wf := wf) m3 ht d1 (.int many) (.int cnt) (ls.map tL) (ks.map tK) l c d (.im (.int i)) e6 hl1 hl2 hd hc o6
      have hl3 : ks.length < 16777216 := by omega
      refine ⟨[.pm (il ds'), .im (.int many), .im (.int cnt), .mu (ls.map tL), .mu (ks.map tK), .im (.int i), e6, .im (.int c), .im (.int d), e9, e10], by simp [evalSs, evalS.eq_1, evalS.eq_2, evalS.eq_3, evalS.eq_4, evalS.eq_5, evalS.eq_6, evalS.eq_7, evalS.eq_8, evalS.eq_9, evalS.eq_12, evalS.eq_13, evalS.eq_14, evalE.eq_1, evalE.eq_2, evalE.eq_3, evalE.eq_4, evalE.eq_5, evalE.eq_6, evalE.eq_7, evalE.eq_8, evalE.eq_9, evalE.eq_10, evalE.eq_11, evalE.eq_12, evalE.eq_13, evalE.eq_14, evalE.eq_15, evalE.eq_17, evalE.eq_18, evalE.eq_19, evalE.eq_20, evalE.eq_21, evalE.eq_22, evalE.eq_25, evalEs, evalO, evalC, evalIt, evI, evB_v, evB_cN, evB_cB, evB_cI, evB_cS, evB_bin, evB_chain, evB_neg, evB_not, evB_and, evB_or, evB_ite, evB_tup, evB_lst, evB_sli, evB_call, evB_bi, evB_birng, evB_pop, evB_isi, evB_comp, evB_comp2, evB_sset, bval_s, evVar, getS, RV.d, resB, slD, bi1, lenD, opB, op2, tst, andE, orE, asgN, asgs, asgR_d, asgR_n, asgT_n, asgT_t, asgR_t, nxO_s, seqO_nx, seqO_rt, seqO_bk, seqO_ct, okSt_un, okSt_im, okSt_mu, cellD_un, cellD_im, cellD_mu, cellD_pm, cellD_bo, setAt, appAt, revAt, augAt, augD, retE_v, retE_cN, retE_cB, retE_cI, retE_cS, retE_bin, retE_chain, retE_neg, retE_not, retE_and, retE_or, retE_ite, retE_tup, retE_lst, retE_sli, retE_call, retE_bi, retE_birng, retE_pop, retE_isi, retE_comp, retE_comp2, retE_sset, rval_s, shal_int, eqv_int, o5], [.pm (il d2), .im (.int many), .im (.int cnt), .mu (ls.map tL), .mu ((ks ++ [ky]).map tK), .im (.int i), x6, .im (.int c), .im (.int d), .im (tL l), .mu (il ky)], .inl ?_, ks ++ [ky], d2, .im (.int i), x6, .im (tL l), .mu (il ky), rfl, rfl, ox, rfl, rfl, hK.app kl, by simp [hk]⟩
      rw [b6_2f_3b, ss_cons_nx (e := [.pm (il d1), .im (.int many), .im (.int cnt), .mu (ls.map tL), .mu (ks.map tK), .im (.int i), e6, .im (.int c), .im (.int d), .im (tL l), e10]) (by simp [b6_2f_3b_0, evalE.eq_16, evalA, evAV_v, evAV_cN, evAV_cB, evAV_cI, evAV_cS, evAV_bin, evAV_chain, evAV_neg, evAV_not, evAV_and, evAV_or, evAV_ite, evAV_tup, evAV_lst, evAV_sli, evAV_call, evAV_bi, evAV_birng, evAV_pop, evAV_isi, evAV_comp, evAV_comp2, evAV_sset, aval_s, callE, cellsA, borsA, cargs, setCs, setC, nodupB, evalSs, evalS.eq_1, evalS.eq_2, evalS.eq_3, evalS.eq_4, evalS.eq_5, evalS.eq_6, evalS.eq_7, evalS.eq_8, evalS.eq_9, evalS.eq_12, evalS.eq_13, evalS.eq_14, evalE.eq_1, evalE.eq_2, evalE.eq_3, evalE.eq_4, evalE.eq_5, evalE.eq_6, evalE.eq_7, evalE.eq_8, evalE.eq_9, evalE.eq_10, evalE.eq_11, evalE.eq_12, evalE.eq_13, evalE.eq_14, evalE.eq_15, evalE.eq_17, evalE.eq_18, evalE.eq_19, evalE.eq_20, evalE.eq_21, evalE.eq_22, evalE.eq_25, evalEs, evalO, evalC, evalIt, evI, evB_v, evB_cN, evB_cB, evB_cI, evB_cS, evB_bin, evB_chain, evB_neg, evB_not, evB_and, evB_or, evB_ite, evB_tup, evB_lst, evB_sli, evB_call, evB_bi, evB_birng, evB_pop, evB_isi, evB_comp, evB_comp2, evB_sset, bval_s, evVar, getS, RV.d, resB, slD, bi1, lenD, opB, op2, tst, andE, orE, asgN, asgs, asgR_d, asgR_n, asgT_n, asgT_t, asgR_t, nxO_s, seqO_nx, seqO_rt, seqO_bk, seqO_ct, okSt_un, okSt_im, okSt_mu, cellD_un, cellD_im, cellD_mu, cellD_pm, cellD_bo, setAt, appAt, revAt, augAt, augD, retE_v, retE_cN, retE_cB, retE_cI, retE_cS, retE_bin, retE_chain, retE_neg, retE_not, retE_and, retE_or, retE_ite, retE_tup, retE_lst, retE_sli, retE_call, retE_bi, retE_birng, retE_pop, retE_isi, retE_comp, retE_comp2, retE_sset, rval_s, shal_int, eqv_int, m3, t1, j1, g1, o9]),
        ss_cons_nx (e := [.pm (il d1), .im (.int many), .im (.int cnt), .mu (ls.map tL), .mu (ks.map tK), .im (.int i), e6, .im (.int c), .im (.int d), .im (tL l), .mu []]) (by simp [b6_2f_3b_1, evalSs, evalS.eq_1, evalS.eq_2, evalS.eq_3, evalS.eq_4, evalS.eq_5, evalS.eq_6, evalS.eq_7, evalS.eq_8, evalS.eq_9, evalS.eq_12, evalS.eq_13, evalS.eq_14, evalE.eq_1, evalE.eq_2, evalE.eq_3, evalE.eq_4, evalE.eq_5, evalE.eq_6, evalE.eq_7, evalE.eq_8, evalE.eq_9, evalE.eq_10, evalE.eq_11, evalE.eq_12, evalE.eq_13, evalE.eq_14, evalE.eq_15, evalE.eq_17, evalE.eq_18, evalE.eq_19, evalE.eq_20, evalE.eq_21, evalE.eq_22, evalE.eq_25, evalEs, evalO, evalC, evalIt, evI, evB_v, evB_cN, evB_cB, evB_cI, evB_cS, evB_bin, evB_chain, evB_neg, evB_not, evB_and, evB_or, evB_ite, evB_tup, evB_lst, evB_sli, evB_call, evB_bi, evB_birng, evB_pop, evB_isi, evB_comp, evB_comp2, evB_sset, bval_s, evVar, getS, RV.d, resB, slD, bi1, lenD, opB, op2, tst, andE, orE, asgN, asgs, asgR_d, asgR_n, asgT_n, asgT_t, asgR_t, nxO_s, seqO_nx, seqO_rt, seqO_bk, seqO_ct, okSt_un, okSt_im, okSt_mu, cellD_un, cellD_im, cellD_mu, cellD_pm, cellD_bo, setAt, appAt, revAt, augAt, augD, retE_v, retE_cN, retE_cB, retE_cI, retE_cS, retE_bin, retE_chain, retE_neg, retE_not, retE_and, retE_or, retE_ite, retE_tup, retE_lst, retE_sli, retE_call, retE_bi, retE_birng, retE_pop, retE_isi, retE_comp, retE_comp2, retE_sset, rval_s, shal_int, eqv_int, o10]), ss_cons_nx q]
      simp [b6_2f_3b_3, evalSs, evalS.eq_1, evalS.eq_2, evalS.eq_3, evalS.eq_4, evalS.eq_5, evalS.eq_6, evalS.eq_7, evalS.eq_8, evalS.eq_9, evalS.eq_12, evalS.eq_13, evalS.eq_14, evalE.eq_1, evalE.eq_2, evalE.eq_3, evalE.eq_4, evalE.eq_5, evalE.eq_6, evalE.eq_7, evalE.eq_8, evalE.eq_9, evalE.eq_10, evalE.eq_11, evalE.eq_12, evalE.eq_13, evalE.eq_14, evalE.eq_15, evalE.eq_17, evalE.eq_18, evalE.eq_19, evalE.eq_20, evalE.eq_21, evalE.eq_22, evalE.eq_25, evalEs, evalO, evalC, evalIt, evI, evB_v, evB_cN, evB_cB, evB_cI, evB_cS, evB_bin, evB_chain, evB_neg, evB_not, evB_and, evB_or, evB_ite, evB_tup, evB_lst, evB_sli, evB_call, evB_bi, evB_birng, evB_pop, evB_isi, evB_comp, evB_comp2, evB_sset, bval_s, evVar, getS, RV.d, resB, slD, bi1, lenD, opB, op2, tst, andE, orE, asgN, asgs, asgR_d, asgR_n, asgT_n, asgT_t, asgR_t, nxO_s, seqO_nx, seqO_rt, seqO_bk, seqO_ct, okSt_un, okSt_im, okSt_mu, cellD_un, cellD_im, cellD_mu, cellD_pm, cellD_bo, setAt, appAt, revAt, augAt, augD, retE_v, retE_cN, retE_cB, retE_cI, retE_cS, retE_bin, retE_chain, retE_neg, retE_not, retE_and, retE_or, retE_ite, retE_tup, retE_lst, retE_sli, retE_call, retE_bi, retE_birng, retE_pop, retE_isi, retE_comp, retE_comp2, retE_sset, rval_s, shal_int, eqv_int, seqOf, hl3]
  exact ⟨ks, ds', e5, e6, e9, e10, hK, by rw [hk]; simp [rng1], h1⟩
theorem swap_lk (m3 : cl.md 3 = [true, false]) (ht : Takes cl) (ds : List Int) (many : Nat) (q : PyData) (c : Nat) (ls : List (List (List Int))) (ks : List PyData) (e5 e6 e7 e8 e9 e10 : Sl) (hm : 0 < many) (hL : Locks c ls) (hl : ls.length = many) :
    ∃ (ls' : List (List (List Int))) (ds' : List Int), Locks c ls' ∧ ls'.length = many ∧ evalS cl wf b6_3 [.pm (il ds), .im (.int many), .im q, .mu (ls.map tL), .mu ks, e5, e6, e7, e8, e9, e10] = some (.nx [.pm (il ds'), .im (.int many), .im q, .mu (ls'.map tL), .mu ks, e5, e6, e7, e8, e9, e10]) := by
  by_cases c1 : (1 : Int) < (many : Int)
  · obtain ⟨v, d1, t1, l1⟩ := ht ds 3 (by omega)
    by_cases c2 : v = 0
    · subst c2
      obtain ⟨v1, d2, t2, l2⟩ := ht d1 many (by omega)
      obtain ⟨v2, d3, t3, l3⟩ := ht d2 many (by omega)
      obtain ⟨l, g1⟩ : ∃ x, ls[v1]? = some x := ⟨_, List.getElem?_eq_getElem (by omega)⟩
      have j1 : ixn ls.length (v1 : Int) = some v1 := ixn_nat (by omega)
      have j2 : ixn ls.length (v2 : Int) = some v2 := ixn_nat (by omega)
      have hx := hL l (List.mem_of_getElem? g1)
      refine ⟨ls.set v2 l, d3, fun x hx2 => ?_, by rw [List.length_set]; exact hl, ?_⟩
      · rcases List.mem_or_eq_of_mem_set hx2 with z | z
        · exact hL x z
        · rw [z]; exact hx
      · simp only [Int.natCast_zero] at t1
        rw [b6_3, if_t (e1 := [.pm (il d1), .im (.int many), .im q, .mu (ls.map tL), .mu ks, e5, e6, e7, e8, e9, e10]) (by simp [evalE.eq_16, evalA, evAV_v, evAV_cN, evAV_cB, evAV_cI, evAV_cS, evAV_bin, evAV_chain, evAV_neg, evAV_not, evAV_and, evAV_or, evAV_ite, evAV_tup, evAV_lst, evAV_sli, evAV_call, evAV_bi, evAV_birng, evAV_pop, evAV_isi, evAV_comp, evAV_comp2, evAV_sset, aval_s, callE, cellsA, borsA, cargs, setCs, setC, nodupB, evalSs, evalS.eq_1, evalS.eq_2, evalS.eq_3, evalS.eq_4, evalS.eq_5, evalS.eq_6, evalS.eq_7, evalS.eq_8, evalS.eq_9, evalS.eq_12, evalS.eq_13, evalS.eq_14, evalE.eq_1, evalE.eq_2, evalE.eq_3, evalE.eq_4, evalE.eq_5, evalE.eq_6, evalE.eq_7, evalE.eq_8, evalE.eq_9, evalE.eq_10, evalE.eq_11, evalE.eq_12, evalE.eq_13, evalE.eq_14, evalE.eq_15, evalE.eq_17, evalE.eq_18, evalE.eq_19, evalE.eq_20, evalE.eq_21, evalE.eq_22, evalE.eq_25, evalEs, evalO, evalC, evalIt, evI, evB_v, evB_cN, evB_cB, evB_cI, evB_cS, evB_bin, evB_chain, evB_neg, evB_not, evB_and, evB_or, evB_ite, evB_tup, evB_lst, evB_sli, evB_call, evB_bi, evB_birng, evB_pop, evB_isi, evB_comp, evB_comp2, evB_sset, bval_s, evVar, getS, RV.d, resB, slD, bi1, lenD, opB, op2, tst, andE, orE, asgN, asgs, asgR_d, asgR_n, asgT_n, asgT_t, asgR_t, nxO_s, seqO_nx, seqO_rt, seqO_bk, seqO_ct, okSt_un, okSt_im, okSt_mu, cellD_un, cellD_im, cellD_mu, cellD_pm, cellD_bo, setAt, appAt, revAt, augAt, augD, retE_v, retE_cN, retE_cB, retE_cI, retE_cS, retE_bin, retE_chain, retE_neg, retE_not, retE_and, retE_or, retE_ite, retE_tup, retE_lst, retE_sli, retE_call, retE_bi, retE_birng, retE_pop, retE_isi, retE_comp, retE_comp2, retE_sset, rval_s, shal_int, eqv_int, m3, t1, c1])]
        simp [evalE.eq_16, evalA, evAV_v, evAV_cN, evAV_cB, evAV_cI, evAV_cS, evAV_bin, evAV_chain, evAV_neg, evAV_not, evAV_and, evAV_or, evAV_ite, evAV_tup, evAV_lst, evAV_sli, evAV_call, evAV_bi, evAV_birng, evAV_pop, evAV_isi, evAV_comp, evAV_comp2, evAV_sset, aval_s, callE, cellsA, borsA, cargs, setCs, setC, nodupB, evalSs, evalS.eq_1, evalS.eq_2, evalS.eq_3, evalS.eq_4, evalS.eq_5, evalS.eq_6, evalS.eq_7, evalS.eq_8, evalS.eq_9, evalS.eq_12, evalS.eq_13, evalS.eq_14, evalE.eq_1, evalE.eq_2, evalE.eq_3, evalE.eq_4, evalE.eq_5, evalE.eq_6, evalE.eq_7, evalE.eq_8, evalE.eq_9, evalE.eq_10, evalE.eq_11, evalE.eq_12, evalE.eq_13, evalE.eq_14, evalE.eq_15, evalE.eq_17, evalE.eq_18, evalE.eq_19, evalE.eq_20, evalE.eq_21, evalE.eq_22, evalE.eq_25, evalEs, evalO, evalC, evalIt, evI, evB_v, evB_cN, evB_cB, evB_cI, evB_cS, evB_bin, evB_chain, evB_neg, evB_not, evB_and, evB_or, evB_ite, evB_tup, evB_lst, evB_sli, evB_call, evB_bi, evB_birng, evB_pop, evB_isi, evB_comp, evB_comp2, evB_sset, bval_s, evVar, getS, RV.d, resB, slD, bi1, lenD, opB, op2, tst, andE, orE, asgN, asgs, asgR_d, asgR_n, asgT_n, asgT_t, asgR_t, nxO_s, seqO_nx, seqO_rt, seqO_bk, seqO_ct, okSt_un, okSt_im, okSt_mu, cellD_un, cellD_im, cellD_mu, cellD_pm, cellD_bo, setAt, appAt, revAt, augAt, augD, retE_v, retE_cN, retE_cB, retE_cI, retE_cS, retE_bin, retE_chain, retE_neg, retE_not, retE_and, retE_or, retE_ite, retE_tup, retE_lst, retE_sli, retE_call, retE_bi, retE_birng, retE_pop, retE_isi, retE_comp, retE_comp2, retE_sset, rval_s, shal_int, eqv_int, m3, t2, t3, j1, j2, g1, List.map_set]
    · refine ⟨ls, d1, hL, hl, ?_⟩
      rw [b6_3, if_f (e1 := [.pm (il d1), .im (.int many), .im q, .mu (ls.map tL), .mu ks, e5, e6, e7, e8, e9, e10]) (by simp [evalE.eq_16, evalA, evAV_v, evAV_cN, evAV_cB, evAV_cI, evAV_cS, evAV_bin, evAV_chain, evAV_neg, evAV_not, evAV_and, evAV_or, evAV_ite, evAV_tup, evAV_lst, evAV_sli, evAV_call, evAV_bi, evAV_birng, evAV_pop, evAV_isi, evAV_comp, evAV_comp2, evAV_sset, aval_s, callE, cellsA, borsA, cargs, setCs, setC, nodupB, evalSs, evalS.eq_1, evalS.eq_2, evalS.eq_3, evalS.eq_4, evalS.eq_5, evalS.eq_6, evalS.eq_7, evalS.eq_8, evalS.eq_9, evalS.eq_12, evalS.eq_13, evalS.eq_14, evalE.eq_1, evalE.eq_2, evalE.eq_3, evalE.eq_4, evalE.eq_5, evalE.eq_6, evalE.eq_7, evalE.eq_8, evalE.eq_9, evalE.eq_10, evalE.eq_11, evalE.eq_12, evalE.eq_13, evalE.eq_14, evalE.eq_15, evalE.eq_17, evalE.eq_18, evalE.eq_19, evalE.eq_20, evalE.eq_21, evalE.eq_22, evalE.eq_25, evalEs, evalO, evalC, evalIt, evI, evB_v, evB_cN, evB_cB, evB_cI, evB_cS, evB_bin, evB_chain, evB_neg, evB_not, evB_and, evB_or, evB_ite, evB_tup, evB_lst, evB_sli, evB_call, evB_bi, evB_birng, evB_pop, evB_isi, evB_comp, evB_comp2, evB_sset, bval_s, evVar, getS, RV.d, resB, slD, bi1, lenD, opB, op2, tst, andE, orE, asgN, asgs, asgR_d, asgR_n, asgT_n, asgT_t, asgR_t, nxO_s, seqO_nx, seqO_rt, seqO_bk, seqO_ct, okSt_un, okSt_im, okSt_mu, cellD_un, cellD_im, cellD_mu, cellD_pm, cellD_bo, setAt, appAt, revAt, augAt, augD, retE_v, retE_cN, retE_cB, retE_cI, retE_cS, retE_bin, retE_chain, retE_neg, retE_not, retE_and, retE_or, retE_ite, retE_tup, retE_lst, retE_sli, retE_call, retE_bi, retE_birng, retE_pop, retE_isi, retE_comp, retE_comp2, retE_sset, rval_s, shal_int, eqv_int, m3, t1, c1, c2]), evalSs]
  · refine ⟨ls, ds, hL, hl, ?_⟩
    rw [b6_3, if_f (e1 := [.pm (il ds), .im (.int many), .im q, .mu (ls.map tL), .mu ks, e5, e6, e7, e8, e9, e10]) (by simp [evalE.eq_16, evalA, evAV_v, evAV_cN, evAV_cB, evAV_cI, evAV_cS, evAV_bin, evAV_chain, evAV_neg, evAV_not, evAV_and, evAV_or, evAV_ite, evAV_tup, evAV_lst, evAV_sli, evAV_call, evAV_bi, evAV_birng, evAV_pop, evAV_isi, evAV_comp, evAV_comp2, evAV_sset, aval_s, callE, cellsA, borsA, cargs, setCs, setC, nodupB, evalSs, evalS.eq_1, evalS.eq_2, evalS.eq_3, evalS.eq_4, evalS.eq_5, evalS.eq_6, evalS.eq_7, evalS.eq_8, evalS.eq_9, evalS.eq_12, evalS.eq_13, evalS.eq_14, evalE.eq_1, evalE.eq_2, evalE.eq_3, evalE.eq_4, evalE.eq_5, evalE.eq_6, evalE.eq_7, evalE.eq_8, evalE.eq_9, evalE.eq_10, evalE.eq_11, evalE.eq_12, evalE.eq_13, evalE.eq_14, evalE.eq_15, evalE.eq_17, evalE.eq_18, evalE.eq_19, evalE.eq_20, evalE.eq_21, evalE.eq_22, evalE.eq_25, evalEs, evalO, evalC, evalIt, evI, evB_v, evB_cN, evB_cB, evB_cI, evB_cS, evB_bin, evB_chain, evB_neg, evB_not, evB_and, evB_or, evB_ite, evB_tup, evB_lst, evB_sli, evB_call, evB_bi, evB_birng, evB_pop, evB_isi, evB_comp, evB_comp2, evB_sset, bval_s, evVar, getS, RV.d, resB, slD, bi1, lenD, opB, op2, tst, andE, orE, asgN, asgs, asgR_d, asgR_n, asgT_n, asgT_t, asgR_t, nxO_s, seqO_nx, seqO_rt, seqO_bk, seqO_ct, okSt_un, okSt_im, okSt_mu, cellD_un, cellD_im, cellD_mu, cellD_pm, cellD_bo, setAt, appAt, revAt, augAt, augD, retE_v, retE_cN, retE_cB, retE_cI, retE_cS, retE_bin, retE_chain, retE_neg, retE_not, retE_and, retE_or, retE_ite, retE_tup, retE_lst, retE_sli, retE_call, retE_bi, retE_birng, retE_pop, retE_isi, retE_comp, retE_comp2, retE_sset, rval_s, shal_int, eqv_int, c1]), evalSs]
theorem lkeys_body (m3 : cl.md 3 = [true, false]) (m5 : cl.md 5 = [true, false]) (ht : Takes cl) (hLt : Lets cl) (ds : List Int) (many cnt : Nat) (hm : 0 < many) (hm2 : many ≤ 1000) (hc : 0 < cnt) (hc2 : cnt ≤ 1000) :
    ∃ (c : Nat) (ls : List (List (List Int))) (ks : List (List Int)) (ds' : List Int) (e : NEnv), 0 < c ∧ c ≤ 1000 ∧ Locks c ls ∧ ls.length = many ∧ Keys c ks ∧ ks.length = cnt ∧
      evalSs cl wf b6 [.pm (il ds), .im (.int many), .im (.int cnt), .un, .un, .un, .un, .un, .un, .un, .un] = some (.rt (.dat (.tuple [.tuple (ls.map tL), .tuple (ks.map tK)])) e) ∧ outsE e [true, false, false] 0 = some [il ds'] := by
  -- the two ways
  have ways : ∃ (c : Nat) (ls : List (List (List Int))) (ks : List (List Int)) (ds' : List Int) (e5 e6 e7 e8 e9 e10 : Sl), 0 < c ∧ c ≤ 1000 ∧ Locks c ls ∧ ls.length = many ∧ Keys c ks ∧ ks.length = cnt ∧
      evalS cl wf b6_2 [.pm (il ds), .im (.int many), .im (.int cnt), .mu [], .mu [], .un, .un, .un, .un, .un, .un] = some (.nx [.pm (il ds'), .im (.int many), .im (.int cnt), .mu (ls.map tL), .mu (ks.map tK), e5, e6, e7, e8, e9, e10]) := by
    obtain ⟨v, d1, t1', l1⟩ := ht ds 2 (by omega)
    by_cases z : v = 0
    · subst z
      obtain ⟨ks, x, ox, hK, hk, q1⟩ := t0 (cl := cl) (wf := wf) (p := .int many) d1 cnt hc2
      obtain ⟨ls, d2, y, oy, hL, hl, q2⟩ := t1 (cl := cl) (wf := wf) m3 ht d1 many cnt (ks.map tK) hm2 hc2 x ox
      refine ⟨cnt, ls, ks, d2, y, .un, .un, .un, .un, .un, hc, hc2, hL, hl, hK, hk, ?_⟩
      simp only [Int.natCast_zero] at t1'
      rw [b6_2, if_t (e1 := [.pm (il d1), .im (.int many), .im (.int cnt), .mu [], .mu [], .un, .un, .un, .un, .un, .un]) (by simp [evalE.eq_16, evalA, evAV_v, evAV_cN, evAV_cB, evAV_cI, evAV_cS, evAV_bin, evAV_chain, evAV_neg, evAV_not, evAV_and, evAV_or, evAV_ite, evAV_tup, evAV_lst, evAV_sli, evAV_call, evAV_bi, evAV_birng, evAV_pop, evAV_isi, evAV_comp, evAV_comp2, evAV_sset, aval_s, callE, cellsA, borsA, cargs, setCs, setC, nodupB, evalSs, evalS.eq_1, evalS.eq_2, evalS.eq_3, evalS.eq_4, evalS.eq_5, evalS.eq_6, evalS.eq_7, evalS.eq_8, evalS.eq_9, evalS.eq_12, evalS.eq_13, evalS.eq_14, evalE.eq_1, evalE.eq_2, evalE.eq_3, evalE.eq_4, evalE.eq_5, evalE.eq_6, evalE.eq_7, evalE.eq_8, evalE.eq_9, evalE.eq_10, evalE.eq_11, evalE.eq_12, evalE.eq_13, evalE.eq_14, evalE.eq_15, evalE.eq_17, evalE.eq_18, evalE.eq_19, evalE.eq_20, evalE.eq_21, evalE.eq_22, evalE.eq_25, evalEs, evalO, evalC, evalIt, evI, evB_v, evB_cN, evB_cB, evB_cI, evB_cS, evB_bin, evB_chain, evB_neg, evB_not, evB_and, evB_or, evB_ite, evB_tup, evB_lst, evB_sli, evB_call, evB_bi, evB_birng, evB_pop, evB_isi, evB_comp, evB_comp2, evB_sset, bval_s, evVar, getS, RV.d, resB, slD, bi1, lenD, opB, op2, tst, andE, orE, asgN, asgs, asgR_d, asgR_n, asgT_n, asgT_t, asgR_t, nxO_s, seqO_nx, seqO_rt, seqO_bk, seqO_ct, okSt_un, okSt_im, okSt_mu, cellD_un, cellD_im, cellD_mu, cellD_pm, cellD_bo, setAt, appAt, revAt, augAt, augD, retE_v, retE_cN, retE_cB, retE_cI, retE_cS, retE_bin, retE_chain, retE_neg, retE_not, retE_and, retE_or, retE_ite, retE_tup, retE_lst, retE_sli, retE_call, retE_bi, retE_birng, retE_pop, retE_isi, retE_comp, retE_comp2, retE_sset, rval_s, shal_int, eqv_int, m3, t1']), b6_2t, ss_cons_nx q1, ss_cons_nx q2, evalSs]
    · obtain ⟨c, d2, c1, c2, q1⟩ := f0 (cl := cl) (wf := wf) m3 ht d1 (.int many) (.int cnt)
      obtain ⟨d, d3, h3, q2⟩ := f1 (cl := cl) (wf := wf) m3 ht d2 (.int many) (.int cnt) (.int c)
      obtain ⟨ls, d4, x, ox, hL, hl, q3⟩ := f2 (cl := cl) (wf := wf) m5 hLt d3 many c d (.int cnt) [] hm2 (by omega) h3
      obtain ⟨ks, d5, e5, e6, e9, e10, hK, hk, q4⟩ := f3 (cl := cl) (wf := wf) m3 ht d4 many cnt c d ls x ox hm hc2 (by omega) h3 hL hl
      refine ⟨c, ls, ks, d5, e5, e6, .im (.int c), .im (.int d), e9, e10, c1, by omega, hL, hl, hK, hk, ?_⟩
      rw [b6_2, if_f (e1 := [.pm (il d1), .im (.int many), .im (.int cnt), .mu [], .mu [], .un, .un, .un, .un, .un, .un]) (by simp [evalE.eq_16, evalA, evAV_v, evAV_cN, evAV_cB, evAV_cI, evAV_cS, evAV_bin, evAV_chain, evAV_neg, evAV_not, evAV_and, evAV_or, evAV_ite, evAV_tup, evAV_lst, evAV_sli, evAV_call, evAV_bi, evAV_birng, evAV_pop, evAV_isi, evAV_comp, evAV_comp2, evAV_sset, aval_s, callE, cellsA, borsA, cargs, setCs, setC, nodupB, evalSs, evalS.eq_1, evalS.eq_2, evalS.eq_3, evalS.eq_4, evalS.eq_5, evalS.eq_6, evalS.eq_7, evalS.eq_8, evalS.eq_9, evalS.eq_12, evalS.eq_13, evalS.eq_14, evalE.eq_1, evalE.eq_2, evalE.eq_3, evalE.eq_4, evalE.eq_5, evalE.eq_6, evalE.eq_7, evalE.eq_8, evalE.eq_9, evalE.eq_10, evalE.eq_11, evalE.eq_12, evalE.eq_13, evalE.eq_14, evalE.eq_15, evalE.eq_17, evalE.eq_18, evalE.eq_19, evalE.eq_20, evalE.eq_21, evalE.eq_22, evalE.eq_25, evalEs, evalO, evalC, evalIt, evI, evB_v, evB_cN, evB_cB, evB_cI, evB_cS, evB_bin, evB_chain, evB_neg, evB_not, evB_and, evB_or, evB_ite, evB_tup, evB_lst, evB_sli, evB_call, evB_bi, evB_birng, evB_pop, evB_isi, evB_comp, evB_comp2, evB_sset, bval_s, evVar, getS, RV.d, resB, slD, bi1, lenD, opB, op2, tst, andE, orE, asgN, asgs, asgR_d, asgR_n, asgT_n, asgT_t, asgR_t, nxO_s, seqO_nx, seqO_rt, seqO_bk, seqO_ct, okSt_un, okSt_im, okSt_mu, cellD_un, cellD_im, cellD_mu, cellD_pm, cellD_bo, setAt, appAt, revAt, augAt, augD, retE_v, retE_cN, retE_cB, retE_cI, retE_cS, retE_bin, retE_chain, retE_neg, retE_not, retE_and, retE_or, retE_ite, retE_tup, retE_lst, retE_sli, retE_call, retE_bi, retE_birng, retE_pop, retE_isi, retE_comp, retE_comp2, retE_sset, rval_s, shal_int, eqv_int, m3, t1', z]), b6_2f, ss_cons_nx q1, ss_cons_nx q2, ss_cons_nx q3, ss_cons_nx q4, evalSs]
  obtain ⟨c, ls, ks, d1, e5, e6, e7, e8, e9, e10, h1, h2, hL, hl, hK, hk, q⟩ := ways
  obtain ⟨ls', d2, hL', hl', q2⟩ := swap_lk (cl := cl) (wf := wf) m3 ht d1 many (.int cnt) c ls (ks.map tK) e5 e6 e7 e8 e9 e10 hm hL hl
  refine ⟨c, ls', ks, d2, [.pm (il d2), .im (.int many), .im (.int cnt), .mu (ls'.map tL), .mu (ks.map tK), e5, e6, e7, e8, e9, e10], h1, h2, hL', hl', hK, hk, ?_, rfl⟩
  rw [b6, ss_cons_nx (e := [.pm (il ds), .im (.int many), .im (.int cnt), .mu [], .un, .un, .un, .un, .un, .un, .un]) (by simp [b6_0, evalSs, evalS.eq_1, evalS.eq_2, evalS.eq_3, evalS.eq_4, evalS.eq_5, evalS.eq_6, evalS.eq_7, evalS.eq_8, evalS.eq_9, evalS.eq_12, evalS.eq_13, evalS.eq_14, evalE.eq_1, evalE.eq_2, evalE.eq_3, evalE.eq_4, evalE.eq_5, evalE.eq_6, evalE.eq_7, evalE.eq_8, evalE.eq_9, evalE.eq_10, evalE.eq_11, evalE.eq_12, evalE.eq_13, evalE.eq_14, evalE.eq_15, evalE.eq_17, evalE.eq_18, evalE.eq_19, evalE.eq_20, evalE.eq_21, evalE.eq_22, evalE.eq_25, evalEs, evalO, evalC, evalIt, evI, evB_v, evB_cN, evB_cB, evB_cI, evB_cS, evB_bin, evB_chain, evB_neg, evB_not, evB_and, evB_or, evB_ite, evB_tup, evB_lst, evB_sli, evB_call, evB_bi, evB_birng, evB_pop, evB_isi, evB_comp, evB_comp2, evB_sset, bval_s, evVar, getS, RV.d, resB, slD, bi1, lenD, opB, op2, tst, andE, orE, asgN, asgs, asgR_d, asgR_n, asgT_n, asgT_t, asgR_t, nxO_s, seqO_nx, seqO_rt, seqO_bk, seqO_ct, okSt_un, okSt_im, okSt_mu, cellD_un, cellD_im, cellD_mu, cellD_pm, cellD_bo, setAt, appAt, revAt, augAt, augD, retE_v, retE_cN, retE_cB, retE_cI, retE_cS, retE_bin, retE_chain, retE_neg, retE_not, retE_and, retE_or, retE_ite, retE_tup, retE_lst, retE_sli, retE_call, retE_bi, retE_birng, retE_pop, retE_isi, retE_comp, retE_comp2, retE_sset, rval_s, shal_int, eqv_int]), ss_cons_nx (e := [.pm (il ds), .im (.int many), .im (.int cnt), .mu [], .mu [], .un, .un, .un, .un, .un, .un]) (by simp [b6_1, evalSs, evalS.eq_1, evalS.eq_2, evalS.eq_3, evalS.eq_4, evalS.eq_5, evalS.eq_6, evalS.eq_7, evalS.eq_8, evalS.eq_9, evalS.eq_12, evalS.eq_13, evalS.eq_14, evalE.eq_1, evalE.eq_2, evalE.eq_3, evalE.eq_4, evalE.eq_5, evalE.eq_6, evalE.eq_7, evalE.eq_8, evalE.eq_9, evalE.eq_10, evalE.eq_11, evalE.eq_12, evalE.eq_13, evalE.eq_14, evalE.eq_15, evalE.eq_17, evalE.eq_18, evalE.eq_19, evalE.eq_20, evalE.eq_21, evalE.eq_22, evalE.eq_25, evalEs, evalO, evalC, evalIt, evI, evB_v, evB_cN, evB_cB, evB_cI, evB_cS, evB_bin, evB_chain, evB_neg, evB_not, evB_and, evB_or, evB_ite, evB_tup, evB_lst, evB_sli, evB_call, evB_bi, evB_birng, evB_pop, evB_isi, evB_comp, evB_comp2, evB_sset, bval_s, evVar, getS, RV.d, resB, slD, bi1, lenD, opB, op2, tst, andE, orE, asgN, asgs, asgR_d, asgR_n, asgT_n, asgT_t, asgR_t, nxO_s, seqO_nx, seqO_rt, seqO_bk, seqO_ct, okSt_un, okSt_im, okSt_mu, cellD_un, cellD_im, cellD_mu, cellD_pm, cellD_bo, setAt, appAt, revAt, augAt, augD, retE_v, retE_cN, retE_cB, retE_cI, retE_cS, retE_bin, retE_chain, retE_neg, retE_not, retE_and, retE_or, retE_ite, retE_tup, retE_lst, retE_sli, retE_call, retE_bi, retE_birng, retE_pop, retE_isi, retE_comp, retE_comp2, retE_sset, rval_s, shal_int, eqv_int]), ss_cons_nx q, ss_cons_nx q2]
  simp [b6_4, evalSs, evalS.eq_1, evalS.eq_2, evalS.eq_3, evalS.eq_4, evalS.eq_5, evalS.eq_6, evalS.eq_7, evalS.eq_8, evalS.eq_9, evalS.eq_12, evalS.eq_13, evalS.eq_14, evalE.eq_1, evalE.eq_2, evalE.eq_3, evalE.eq_4, evalE.eq_5, evalE.eq_6, evalE.eq_7, evalE.eq_8, evalE.eq_9, evalE.eq_10, evalE.eq_11, evalE.eq_12, evalE.eq_13, evalE.eq_14, evalE.eq_15, evalE.eq_17, evalE.eq_18, evalE.eq_19, evalE.eq_20, evalE.eq_21, evalE.eq_22, evalE.eq_25, evalEs, evalO, evalC, evalIt, evI, evB_v, evB_cN, evB_cB, evB_cI, evB_cS, evB_bin, evB_chain, evB_neg, evB_not, evB_and, evB_or, evB_ite, evB_tup, evB_lst, evB_sli, evB_call, evB_bi, evB_birng, evB_pop, evB_isi, evB_comp, evB_comp2, evB_sset, bval_s, evVar, getS, RV.d, resB, slD, bi1, lenD, opB, op2, tst, andE, orE, asgN, asgs, asgR_d, asgR_n, asgT_n, asgT_t, asgR_t, nxO_s, seqO_nx, seqO_rt, seqO_bk, seqO_ct, okSt_un, okSt_im, okSt_mu, cellD_un, cellD_im, cellD_mu, cellD_pm, cellD_bo, setAt, appAt, revAt, augAt, augD, retE_v, retE_cN, retE_cB, retE_cI, retE_cS, retE_bin, retE_chain, retE_neg, retE_not, retE_and, retE_or, retE_ite, retE_tup, retE_lst, retE_sli, retE_call, retE_bi, retE_birng, retE_pop, retE_isi, retE_comp, retE_comp2, retE_sset, rval_s, shal_int, eqv_int, seqOf]
abbrev LKs (cl : CL) : Prop := ∀ (ds : List Int) (many cnt : Nat), 0 < many → many ≤ 1000 → 0 < cnt → cnt ≤ 1000 → ∃ (c : Nat) (ls : List (List (List Int))) (ks : List (List Int)) (ds' : List Int), 0 < c ∧ c ≤ 1000 ∧ Locks c ls ∧ ls.length = many ∧ Keys c ks ∧ ks.length = cnt ∧
  cl.run 6 [.cell (il ds), .im (.int many), .im (.int cnt)] = some (.dat (.tuple [.tuple (ls.map tL), .tuple (ks.map tK)]), [il ds'])
theorem tries_body (m3 : cl.md 3 = [true, false]) (m6 : cl.md 6 = [true, false, false]) (ht : Takes cl) (hk : LKs cl) (ds : List Int) : ∃ (c : Nat) (ls : List (List (List Int))) (ks : List (List Int)) (ds' : List Int) (e : NEnv), 0 < c ∧ c ≤ 1000 ∧ Locks c ls ∧ 0 < ls.length ∧ ls.length ≤ 1000 ∧ Keys c ks ∧ 0 < ks.length ∧ ks.length ≤ 1000 ∧
    evalSs cl wf b7 [.pm (il ds), .un] = some (.rt (.dat (.tuple [.tuple (ls.map tL), .tuple (ks.map tK)])) e) ∧ outsE e [true] 0 = some [il ds'] := by
  obtain ⟨v1, d1, t1, l1⟩ := ht ds 3 (by omega)
  obtain ⟨w, hw, p1, p2⟩ := pick (ws := [3, 5, 8]) (j := v1) (by show v1 < 3; omega)
  have hw2 : 0 < w ∧ w ≤ 8 := by
    simp only [List.mem_cons, List.mem_nil_iff, or_false] at hw
    omega
  obtain ⟨v2, d2, t2, l2⟩ := ht d1 w hw2.1
  obtain ⟨v3, d3, t3, l3⟩ := ht d2 3 (by omega)
  obtain ⟨w', hw', p1', p2'⟩ := pick (ws := [3, 5, 12]) (j := v3) (by show v3 < 3; omega)
  have hw2' : 0 < w' ∧ w' ≤ 12 := by
    simp only [List.mem_cons, List.mem_nil_iff, or_false] at hw'
    omega
  obtain ⟨v4, d4, t4, l4⟩ := ht d3 w' hw2'.1
  obtain ⟨c, ls, ks, d5, h1, h2, hL, hl, hK, hkl, q⟩ := hk d4 (1 + v2) (1 + v4) (by omega) (by omega) (by omega) (by omega)
  simp only [il, List.map_cons, List.map_nil, List.length_cons, List.length_nil] at p1 p2 p1' p2'
  have e1 : (((1 + v2 : Nat)) : Int) = 1 + (v2 : Int) := by omega
  have e2 : (((1 + v4 : Nat)) : Int) = 1 + (v4 : Int) := by omega
  rw [e1, e2] at q
  refine ⟨c, ls, ks, d5, [.pm (il d5), .im (.int (1 + (v2 : Int)))], h1, h2, hL, by omega, by omega, hK, by omega, by omega, ?_, rfl⟩
  rw [b7, ss_cons_nx (e := [.pm (il d2), .im (.int (1 + (v2 : Int)))]) (by simp [b7_0, evalE.eq_16, evalA, evAV_v, evAV_cN, evAV_cB, evAV_cI, evAV_cS, evAV_bin, evAV_chain, evAV_neg, evAV_not, evAV_and, evAV_or, evAV_ite, evAV_tup, evAV_lst, evAV_sli, evAV_call, evAV_bi, evAV_birng, evAV_pop, evAV_isi, evAV_comp, evAV_comp2, evAV_sset, aval_s, callE, cellsA, borsA, cargs, setCs, setC, nodupB, evalSs, evalS.eq_1, evalS.eq_2, evalS.eq_3, evalS.eq_4, evalS.eq_5, evalS.eq_6, evalS.eq_7, evalS.eq_8, evalS.eq_9, evalS.eq_12, evalS.eq_13, evalS.eq_14, evalE.eq_1, evalE.eq_2, evalE.eq_3, evalE.eq_4, evalE.eq_5, evalE.eq_6, evalE.eq_7, evalE.eq_8, evalE.eq_9, evalE.eq_10, evalE.eq_11, evalE.eq_12, evalE.eq_13, evalE.eq_14, evalE.eq_15, evalE.eq_17, evalE.eq_18, evalE.eq_19, evalE.eq_20, evalE.eq_21, evalE.eq_22, evalE.eq_25, evalEs, evalO, evalC, evalIt, evI, evB_v, evB_cN, evB_cB, evB_cI, evB_cS, evB_bin, evB_chain, evB_neg, evB_not, evB_and, evB_or, evB_ite, evB_tup, evB_lst, evB_sli, evB_call, evB_bi, evB_birng, evB_pop, evB_isi, evB_comp, evB_comp2, evB_sset, bval_s, evVar, getS, RV.d, resB, slD, bi1, lenD, opB, op2, tst, andE, orE, asgN, asgs, asgR_d, asgR_n, asgT_n, asgT_t, asgR_t, nxO_s, seqO_nx, seqO_rt, seqO_bk, seqO_ct, okSt_un, okSt_im, okSt_mu, cellD_un, cellD_im, cellD_mu, cellD_pm, cellD_bo, setAt, appAt, revAt, augAt, augD, retE_v, retE_cN, retE_cB, retE_cI, retE_cS, retE_bin, retE_chain, retE_neg, retE_not, retE_and, retE_or, retE_ite, retE_tup, retE_lst, retE_sli, retE_call, retE_bi, retE_birng, retE_pop, retE_isi, retE_comp, retE_comp2, retE_sset, rval_s, shal_int, eqv_int, m3, t1, t2, p1, p2])]
  simp [b7_1, evalE.eq_16, evalA, evAV_v, evAV_cN, evAV_cB, evAV_cI, evAV_cS, evAV_bin, evAV_chain, evAV_neg, evAV_not, evAV_and, evAV_or, evAV_ite, evAV_tup, evAV_lst, evAV_sli, evAV_call, evAV_bi, evAV_birng, evAV_pop, evAV_isi, evAV_comp, evAV_comp2, evAV_sset, aval_s, callE, cellsA, borsA, cargs, setCs, setC, nodupB, evalSs, evalS.eq_1, evalS.eq_2, evalS.eq_3, evalS.eq_4, evalS.eq_5, evalS.eq_6, evalS.eq_7, evalS.eq_8, evalS.eq_9, evalS.eq_12, evalS.eq_13, evalS.eq_14, evalE.eq_1, evalE.eq_2, evalE.eq_3, evalE.eq_4, evalE.eq_5, evalE.eq_6, evalE.eq_7, evalE.eq_8, evalE.eq_9, evalE.eq_10, evalE.eq_11, evalE.eq_12, evalE.eq_13, evalE.eq_14, evalE.eq_15, evalE.eq_17, evalE.eq_18, evalE.eq_19, evalE.eq_20, evalE.eq_21, evalE.eq_22, evalE.eq_25, evalEs, evalO, evalC, evalIt, evI, evB_v, evB_cN, evB_cB, evB_cI, evB_cS, evB_bin, evB_chain, evB_neg, evB_not, evB_and, evB_or, evB_ite, evB_tup, evB_lst, evB_sli, evB_call, evB_bi, evB_birng, evB_pop, evB_isi, evB_comp, evB_comp2, evB_sset, bval_s, evVar, getS, RV.d, resB, slD, bi1, lenD, opB, op2, tst, andE, orE, asgN, asgs, asgR_d, asgR_n, asgT_n, asgT_t, asgR_t, nxO_s, seqO_nx, seqO_rt, seqO_bk, seqO_ct, okSt_un, okSt_im, okSt_mu, cellD_un, cellD_im, cellD_mu, cellD_pm, cellD_bo, setAt, appAt, revAt, augAt, augD, retE_v, retE_cN, retE_cB, retE_cI, retE_cS, retE_bin, retE_chain, retE_neg, retE_not, retE_and, retE_or, retE_ite, retE_tup, retE_lst, retE_sli, retE_call, retE_bi, retE_birng, retE_pop, retE_isi, retE_comp, retE_comp2, retE_sset, rval_s, shal_int, eqv_int, m3, m6, t3, t4, p1', p2', q]
theorem cut_to (xs : List PyData) {v : Nat} (h : v ≤ xs.length) : cutD xs none (some (v : Int)) = xs.take v := by
  unfold cutD
  rw [HT.sIx_none, HT.sIx_nat, Nat.min_eq_left h, List.drop_zero, Nat.sub_zero]
theorem cut_from (xs : List PyData) {v : Nat} (h : v ≤ xs.length) : cutD xs (some (v : Int)) none = xs.drop v := by
  unfold cutD
  rw [HT.sIx_none, HT.sIx_nat, Nat.min_eq_left h]
  exact List.take_of_length_le (by rw [List.length_drop]; omega)
structure LK (cl : CL) : Prop where
  m1 : cl.md 1 = [false, false]
  m2 : cl.md 2 = [false, false]
  m3 : cl.md 3 = [true, false]
  m7 : cl.md 7 = [true]
  m8 : cl.md 8 = [false, false]
  draws : ∀ ns : List Int, ns.length ≤ 63 → ∃ ds, cl.run 2 [.im (.list (il ns)), .im (.int 1000)] = some (.new (il ds), [])
  take : Takes cl
  tries : ∀ ds : List Int, ∃ (c : Nat) (ls : List (List (List Int))) (ks : List (List Int)) (ds' : List Int), 0 < c ∧ c ≤ 1000 ∧ Locks c ls ∧ 0 < ls.length ∧ ls.length ≤ 1000 ∧ Keys c ks ∧ 0 < ks.length ∧ ks.length ≤ 1000 ∧ cl.run 7 [.cell (il ds)] = some (.dat (.tuple [.tuple (ls.map tL), .tuple (ks.map tK)]), [il ds'])
  says : ∀ (ls : List (List (List Int))) (ky : List Int), (∀ l ∈ ls, ky.length = l.length) → ky.length ≤ 1000 → ls.length ≤ 1000 → ls ≠ [] → cl.run 8 [.im (.tuple (ls.map tL)), .im (tK ky)] = some (.dat (.bool true), [])
  sure : ∀ (ls : List (List (List Int))) (ky : List Int), (∀ l ∈ ls, ky.length = l.length) → ky.length ≤ 1000 → ls.length ≤ 1000 → cl.run 1 [.im (.tuple (ls.map tL)), .im (tK ky)] = some (.dat (.str (sureV ls ky)), [])
/-- keys with one cut drawn anew -/
theorem st3 (L : LK cl) {s : PyData} (ds : List Int) (p : PyData) (c : Nat) (ks : List (List Int)) (hc : 0 < c) (hc2 : c ≤ 1000) (hK : Keys c ks) (hk0 : 0 < ks.length) (hk : ks.length ≤ 1000) :
    ∃ (as : List (List Int)) (ds' : List Int) (x5 x6 : Sl), okSt x5 = true ∧ okSt x6 = true ∧ Keys c as ∧ 0 < as.length ∧ as.length ≤ 1010 ∧ evalS cl wf b9_3 [.im s, .mu (il ds), .im p, .im (.tuple (ks.map tK)), .mu (ks.map tK), .un, .un, .un, .un, .un, .un, .un] = some (.nx [.im s, .mu (il ds'), .im p, .im (.tuple (ks.map tK)), .mu (as.map tK), x5, x6, .un, .un, .un, .un, .un]) := by
  obtain ⟨e', h1, as, ds', x5, x6, rfl, o5, o6, hA, ha0, hal⟩ := for_run (cl := cl) (wf := wf) (tg := .name 5) (it := .e (.sli (.var 3) .none (.some (.cI 3)))) (body := b9_3b) (env := [.im s, .mu (il ds), .im p, .im (.tuple (ks.map tK)), .mu (ks.map tK), .un, .un, .un, .un, .un, .un, .un]) (b := none) (e1 := [.im s, .mu (il ds), .im p, .im (.tuple (ks.map tK)), .mu (ks.map tK), .un, .un, .un, .un, .un, .un, .un]) (ds := cutD (ks.map tK) none (some 3))
    (fun i e => ∃ (as : List (List Int)) (ds' : List Int) (x5 x6 : Sl), e = [.im s, .mu (il ds'), .im p, .im (.tuple (ks.map tK)), .mu (as.map tK), x5, x6, .un, .un, .un, .un, .un] ∧ okSt x5 = true ∧ okSt x6 = true ∧ Keys c as ∧ 0 < as.length ∧ as.length ≤ ks.length + i) (by simp [evalSs, evalS.eq_1, evalS.eq_2, evalS.eq_3, evalS.eq_4, evalS.eq_5, evalS.eq_6, evalS.eq_7, evalS.eq_8, evalS.eq_9, evalS.eq_12, evalS.eq_13, evalS.eq_14, evalE.eq_1, evalE.eq_2, evalE.eq_3, evalE.eq_4, evalE.eq_5, evalE.eq_6, evalE.eq_7, evalE.eq_8, evalE.eq_9, evalE.eq_10, evalE.eq_11, evalE.eq_12, evalE.eq_13, evalE.eq_14, evalE.eq_15, evalE.eq_17, evalE.eq_18, evalE.eq_19, evalE.eq_20, evalE.eq_21, evalE.eq_22, evalE.eq_25, evalEs, evalO, evalC, evalIt, evI, evB_v, evB_cN, evB_cB, evB_cI, evB_cS, evB_bin, evB_chain, evB_neg, evB_not, evB_and, evB_or, evB_ite, evB_tup, evB_lst, evB_sli, evB_call, evB_bi, evB_birng, evB_pop, evB_isi, evB_comp, evB_comp2, evB_sset, bval_s, evVar, getS, RV.d, resB, slD, bi1, lenD, opB, op2, tst, andE, orE, asgN, asgs, asgR_d, asgR_n, asgT_n, asgT_t, asgR_t, nxO_s, seqO_nx, seqO_rt, seqO_bk, seqO_ct, okSt_un, okSt_im, okSt_mu, cellD_un, cellD_im, cellD_mu, cellD_pm, cellD_bo, setAt, appAt, revAt, augAt, augD, retE_v, retE_cN, retE_cB, retE_cI, retE_cS, retE_bin, retE_chain, retE_neg, retE_not, retE_and, retE_or, retE_ite, retE_tup, retE_lst, retE_sli, retE_call, retE_bi, retE_birng, retE_pop, retE_isi, retE_comp, retE_comp2, retE_sset, rval_s, shal_int, eqv_int, sliD]) ⟨ks, ds, .un, .un, rfl, rfl, rfl, hK, hk0, by omega⟩ fun i y e hy ⟨as, ds', x5, x6, he, o5, o6, hA, ha0, hal⟩ => by
      subst he
      have hi : i < 1003 := by
        have h1 := (List.getElem?_eq_some_iff.mp hy).1
        have : (cutD (ks.map tK) none (some 3)).length ≤ ks.length := by
          unfold cutD
          rw [List.length_take, List.length_drop, List.length_map]
          omega
        omega
      obtain ⟨ky, hk1, rfl⟩ : ∃ k, k ∈ ks ∧ y = tK k := by
        have hy := List.mem_of_getElem? hy
        unfold cutD at hy
        have hy := List.mem_of_mem_drop (List.mem_of_mem_take hy)
        obtain ⟨k, h1, h2⟩ := List.mem_map.mp hy
        exact ⟨k, h1, h2.symm⟩
      have hky := hK ky hk1
      obtain ⟨v, d1, t1, l1⟩ := L.take ds' ky.length (by omega)
      obtain ⟨u, d2, t2, _⟩ := L.take d1 12 (by omega)
      have m3 := L.m3
      have c1 := cut_to (il ky) (v := v) (by rw [il_len]; omega)
      have c2 := cut_from (il ky) (v := v + 1) (by rw [il_len]; omega)
      have e1 : ((v + 1 : Nat) : Int) = (v : Int) + 1 := by omega
      rw [e1] at c2
      simp only [il] at c1 c2
      have hz : as.length < 16777216 := by omega
      have hz2 : min v ky.length + 1 ≤ 16777216 := by omega
      have hz3 : min v ky.length + 1 + (ky.length - (v + 1)) ≤ 16777216 := by omega
      refine ⟨[.im s, .mu (il ds'), .im p, .im (.tuple (ks.map tK)), .mu (as.map tK), .im (tK ky), x6, .un, .un, .un, .un, .un], by simp [evalSs, evalS.eq_1, evalS.eq_2, evalS.eq_3, evalS.eq_4, evalS.eq_5, evalS.eq_6, evalS.eq_7, evalS.eq_8, evalS.eq_9, evalS.eq_12, evalS.eq_13, evalS.eq_14, evalE.eq_1, evalE.eq_2, evalE.eq_3, evalE.eq_4, evalE.eq_5, evalE.eq_6, evalE.eq_7, evalE.eq_8, evalE.eq_9, evalE.eq_10, evalE.eq_11, evalE.eq_12, evalE.eq_13, evalE.eq_14, evalE.eq_15, evalE.eq_17, evalE.eq_18, evalE.eq_19, evalE.eq_20, evalE.eq_21, evalE.eq_22, evalE.eq_25, evalEs, evalO, evalC, evalIt, evI, evB_v, evB_cN, evB_cB, evB_cI, evB_cS, evB_bin, evB_chain, evB_neg, evB_not, evB_and, evB_or, evB_ite, evB_tup, evB_lst, evB_sli, evB_call, evB_bi, evB_birng, evB_pop, evB_isi, evB_comp, evB_comp2, evB_sset, bval_s, evVar, getS, RV.d, resB, slD, bi1, lenD, opB, op2, tst, andE, orE, asgN, asgs, asgR_d, asgR_n, asgT_n, asgT_t, asgR_t, nxO_s, seqO_nx, seqO_rt, seqO_bk, seqO_ct, okSt_un, okSt_im, okSt_mu, cellD_un, cellD_im, cellD_mu, cellD_pm, cellD_bo, setAt, appAt, revAt, augAt, augD, retE_v, retE_cN, retE_cB, retE_cI, retE_cS, retE_bin, retE_chain, retE_neg, retE_not, retE_and, retE_or, retE_ite, retE_tup, retE_lst, retE_sli, retE_call, retE_bi, retE_birng, retE_pop, retE_isi, retE_comp, retE_comp2, retE_sset, rval_s, shal_int, eqv_int, o5], [.im s, .mu (il d2), .im p, .im (.tuple (ks.map tK)), .mu ((as ++ [ky.take v ++ [(u : Int)] ++ ky.drop (v + 1)]).map tK), .im (tK ky), .im (.int v), .un, .un, .un, .un, .un], .inl ?_, as ++ [ky.take v ++ [(u : Int)] ++ ky.drop (v + 1)], d2, .im (tK ky), .im (.int v), rfl, rfl, rfl, hA.app (by simp only [List.length_append, List.length_take, List.length_drop, List.length_singleton]; omega), by simp, by simp; omega⟩
      rw [b9_3b, ss_cons_nx (e := [.im s, .mu (il d1), .im p, .im (.tuple (ks.map tK)), .mu (as.map tK), .im (tK ky), .im (.int v), .un, .un, .un, .un, .un]) (by simp [b9_3b_0, evalE.eq_16, evalA, evAV_v, evAV_cN, evAV_cB, evAV_cI, evAV_cS, evAV_bin, evAV_chain, evAV_neg, evAV_not, evAV_and, evAV_or, evAV_ite, evAV_tup, evAV_lst, evAV_sli, evAV_call, evAV_bi, evAV_birng, evAV_pop, evAV_isi, evAV_comp, evAV_comp2, evAV_sset, aval_s, callE, cellsA, borsA, cargs, setCs, setC, nodupB, evalSs, evalS.eq_1, evalS.eq_2, evalS.eq_3, evalS.eq_4, evalS.eq_5, evalS.eq_6, evalS.eq_7, evalS.eq_8, evalS.eq_9, evalS.eq_12, evalS.eq_13, evalS.eq_14, evalE.eq_1, evalE.eq_2, evalE.eq_3, evalE.eq_4, evalE.eq_5, evalE.eq_6, evalE.eq_7, evalE.eq_8, evalE.eq_9, evalE.eq_10, evalE.eq_11, evalE.eq_12, evalE.eq_13, evalE.eq_14, evalE.eq_15, evalE.eq_17, evalE.eq_18, evalE.eq_19, evalE.eq_20, evalE.eq_21, evalE.eq_22, evalE.eq_25, evalEs, evalO, evalC, evalIt, evI, evB_v, evB_cN, evB_cB, evB_cI, evB_cS, evB_bin, evB_chain, evB_neg, evB_not, evB_and, evB_or, evB_ite, evB_tup, evB_lst, evB_sli, evB_call, evB_bi, evB_birng, evB_pop, evB_isi, evB_comp, evB_comp2, evB_sset, bval_s, evVar, getS, RV.d, resB, slD, bi1, lenD, opB, op2, tst, andE, orE, asgN, asgs, asgR_d, asgR_n, asgT_n, asgT_t, asgR_t, nxO_s, seqO_nx, seqO_rt, seqO_bk, seqO_ct, okSt_un, okSt_im, okSt_mu, cellD_un, cellD_im, cellD_mu, cellD_pm, cellD_bo, setAt, appAt, revAt, augAt, augD, retE_v, retE_cN, retE_cB, retE_cI, retE_cS, retE_bin, retE_chain, retE_neg, retE_not, retE_and, retE_or, retE_ite, retE_tup, retE_lst, retE_sli, retE_call, retE_bi, retE_birng, retE_pop, retE_isi, retE_comp, retE_comp2, retE_sset, rval_s, shal_int, eqv_int, m3, t1, o6])]
      simp [b9_3b_1, evalE.eq_16, evalA, evAV_v, evAV_cN, evAV_cB, evAV_cI, evAV_cS, evAV_bin, evAV_chain, evAV_neg, evAV_not, evAV_and, evAV_or, evAV_ite, evAV_tup, evAV_lst, evAV_sli, evAV_call, evAV_bi, evAV_birng, evAV_pop, evAV_isi, evAV_comp, evAV_comp2, evAV_sset, aval_s, callE, cellsA, borsA, cargs, setCs, setC, nodupB, evalSs, evalS.eq_1, evalS.eq_2, evalS.eq_3, evalS.eq_4, evalS.eq_5, evalS.eq_6, evalS.eq_7, evalS.eq_8, evalS.eq_9, evalS.eq_12, evalS.eq_13, evalS.eq_14, evalE.eq_1, evalE.eq_2, evalE.eq_3, evalE.eq_4, evalE.eq_5, evalE.eq_6, evalE.eq_7, evalE.eq_8, evalE.eq_9, evalE.eq_10, evalE.eq_11, evalE.eq_12, evalE.eq_13, evalE.eq_14, evalE.eq_15, evalE.eq_17, evalE.eq_18, evalE.eq_19, evalE.eq_20, evalE.eq_21, evalE.eq_22, evalE.eq_25, evalEs, evalO, evalC, evalIt, evI, evB_v, evB_cN, evB_cB, evB_cI, evB_cS, evB_bin, evB_chain, evB_neg, evB_not, evB_and, evB_or, evB_ite, evB_tup, evB_lst, evB_sli, evB_call, evB_bi, evB_birng, evB_pop, evB_isi, evB_comp, evB_comp2, evB_sset, bval_s, evVar, getS, RV.d, resB, slD, bi1, lenD, opB, op2, tst, andE, orE, asgN, asgs, asgR_d, asgR_n, asgT_n, asgT_t, asgR_t, nxO_s, seqO_nx, seqO_rt, seqO_bk, seqO_ct, okSt_un, okSt_im, okSt_mu, cellD_un, cellD_im, cellD_mu, cellD_pm, cellD_bo, setAt, appAt, revAt, augAt, augD, retE_v, retE_cN, retE_cB, retE_cI, retE_cS, retE_bin, retE_chain, retE_neg, retE_not, retE_and, retE_or, retE_ite, retE_tup, retE_lst, retE_sli, retE_call, retE_bi, retE_birng, retE_pop, retE_isi, retE_comp, retE_comp2, retE_sset, rval_s, shal_int, eqv_int, m3, t2, sliD, c1, c2, hz, hz2, hz3, il]
  exact ⟨as, ds', x5, x6, o5, o6, hA, ha0, by
    have : (cutD (ks.map tK) none (some 3)).length ≤ 3 := by
      unfold cutD HT.sIx
      simp
      omega
    omega, h1⟩
theorem st6 (L : LK cl) {s p q : PyData} (ds : List Int) (l : List (List Int)) (as : List (List Int)) (c a : Nat) (x5 : Sl) (hl : l.length = c) (hp : ∀ cs ∈ l, 0 < cs.length) (hc : c ≤ 1000) (ha : as.length ≤ 1010) (hA : Keys c as) :
    ∃ (as' : List (List Int)) (ds' : List Int), Keys c as' ∧ as'.length ≤ 1011 ∧ 0 < as'.length ∧ evalS cl wf b9_6 [.im s, .mu (il ds), .im p, .im q, .mu (as.map tK), x5, .im (.int a), .im (tL l), .un, .un, .un, .un] = some (.nx [.im s, .mu (il ds'), .im p, .im q, .mu (as'.map tK), x5, .im (.int a), .im (tL l), .un, .un, .un, .un]) := by
  have m3 := L.m3
  obtain ⟨rs, ds', h1, cs, h2, h3⟩ := comp1S (α := List Int) (cl := cl) (elt := .bin .idx (.var 8) (.call 3 (.cons (.var 1) (.cons (.bi .len (.cons (.var 8) .nil)) .nil)))) (it := .e (.var 7)) (c := .none) (v := 8) (env := [.im s, .mu (il ds), .im p, .im q, .mu (as.map tK), x5, .im (.int a), .im (tL l), .un, .un, .un, .un]) (e1 := [.im s, .mu (il ds), .im p, .im q, .mu (as.map tK), x5, .im (.int a), .im (tL l), .un, .un, .un, .un]) (ds := l.map tK) (b := none) (fun d => [.im s, .mu (il d), .im p, .im q, .mu (as.map tK), x5, .im (.int a), .im (tL l), .un, .un, .un, .un])
    (fun i acc _ => ∃ cs : List Int, acc = il cs ∧ cs.length = i) ds (by simp [evalSs, evalS.eq_1, evalS.eq_2, evalS.eq_3, evalS.eq_4, evalS.eq_5, evalS.eq_6, evalS.eq_7, evalS.eq_8, evalS.eq_9, evalS.eq_12, evalS.eq_13, evalS.eq_14, evalE.eq_1, evalE.eq_2, evalE.eq_3, evalE.eq_4, evalE.eq_5, evalE.eq_6, evalE.eq_7, evalE.eq_8, evalE.eq_9, evalE.eq_10, evalE.eq_11, evalE.eq_12, evalE.eq_13, evalE.eq_14, evalE.eq_15, evalE.eq_17, evalE.eq_18, evalE.eq_19, evalE.eq_20, evalE.eq_21, evalE.eq_22, evalE.eq_25, evalEs, evalO, evalC, evalIt, evI, evB_v, evB_cN, evB_cB, evB_cI, evB_cS, evB_bin, evB_chain, evB_neg, evB_not, evB_and, evB_or, evB_ite, evB_tup, evB_lst, evB_sli, evB_call, evB_bi, evB_birng, evB_pop, evB_isi, evB_comp, evB_comp2, evB_sset, bval_s, evVar, getS, RV.d, resB, slD, bi1, lenD, opB, op2, tst, andE, orE, asgN, asgs, asgR_d, asgR_n, asgT_n, asgT_t, asgR_t, nxO_s, seqO_nx, seqO_rt, seqO_bk, seqO_ct, okSt_un, okSt_im, okSt_mu, cellD_un, cellD_im, cellD_mu, cellD_pm, cellD_bo, setAt, appAt, revAt, augAt, augD, retE_v, retE_cN, retE_cB, retE_cI, retE_cS, retE_bin, retE_chain, retE_neg, retE_not, retE_and, retE_or, retE_ite, retE_tup, retE_lst, retE_sli, retE_call, retE_bi, retE_birng, retE_pop, retE_isi, retE_comp, retE_comp2, retE_sset, rval_s, shal_int, eqv_int]) (fun z => nomatch z) rfl (by simp) (fun _ => rfl) rfl (fun _ => rfl) ⟨[], rfl, rfl⟩ (fun i y acc d hy ⟨cs, ha, hl⟩ => by
      rw [List.getElem?_map] at hy
      obtain ⟨ct, hy1, rfl⟩ := map_some hy
      have hct := hp ct (List.mem_of_getElem? hy1)
      obtain ⟨v, d', t1, l1⟩ := L.take d ct.length (by omega)
      have j1 : ixn ct.length (v : Int) = some v := ixn_nat (by omega)
      obtain ⟨u, g1⟩ : ∃ x, ct[v]? = some x := ⟨_, List.getElem?_eq_getElem (by omega)⟩
      exact ⟨d, .inl ⟨.dat (.int u), d', rfl, by simp [evalE.eq_16, evalA, evAV_v, evAV_cN, evAV_cB, evAV_cI, evAV_cS, evAV_bin, evAV_chain, evAV_neg, evAV_not, evAV_and, evAV_or, evAV_ite, evAV_tup, evAV_lst, evAV_sli, evAV_call, evAV_bi, evAV_birng, evAV_pop, evAV_isi, evAV_comp, evAV_comp2, evAV_sset, aval_s, callE, cellsA, borsA, cargs, setCs, setC, nodupB, evalSs, evalS.eq_1, evalS.eq_2, evalS.eq_3, evalS.eq_4, evalS.eq_5, evalS.eq_6, evalS.eq_7, evalS.eq_8, evalS.eq_9, evalS.eq_12, evalS.eq_13, evalS.eq_14, evalE.eq_1, evalE.eq_2, evalE.eq_3, evalE.eq_4, evalE.eq_5, evalE.eq_6, evalE.eq_7, evalE.eq_8, evalE.eq_9, evalE.eq_10, evalE.eq_11, evalE.eq_12, evalE.eq_13, evalE.eq_14, evalE.eq_15, evalE.eq_17, evalE.eq_18, evalE.eq_19, evalE.eq_20, evalE.eq_21, evalE.eq_22, evalE.eq_25, evalEs, evalO, evalC, evalIt, evI, evB_v, evB_cN, evB_cB, evB_cI, evB_cS, evB_bin, evB_chain, evB_neg, evB_not, evB_and, evB_or, evB_ite, evB_tup, evB_lst, evB_sli, evB_call, evB_bi, evB_birng, evB_pop, evB_isi, evB_comp, evB_comp2, evB_sset, bval_s, evVar, getS, RV.d, resB, slD, bi1, lenD, opB, op2, tst, andE, orE, asgN, asgs, asgR_d, asgR_n, asgT_n, asgT_t, asgR_t, nxO_s, seqO_nx, seqO_rt, seqO_bk, seqO_ct, okSt_un, okSt_im, okSt_mu, cellD_un, cellD_im, cellD_mu, cellD_pm, cellD_bo, setAt, appAt, revAt, augAt, augD, retE_v, retE_cN, retE_cB, retE_cI, retE_cS, retE_bin, retE_chain, retE_neg, retE_not, retE_and, retE_or, retE_ite, retE_tup, retE_lst, retE_sli, retE_call, retE_bi, retE_birng, retE_pop, retE_isi, retE_comp, retE_comp2, retE_sset, rval_s, shal_int, eqv_int, m3, t1, j1, g1], cs ++ [u], by rw [ha]; simp [RV.d, il], by simp [hl]⟩⟩) (fun rs d ⟨cs, ha, hl⟩ => by rw [ha, il_len, hl, List.length_map]; omega)
  subst h2
  rw [List.length_map] at h3
  have h1 : evalE cl _ _ = some (.new (il cs), [.im s, .mu (il ds'), .im p, .im q, .mu (as.map tK), x5, .im (.int a), .im (tL l), .un, .un, .un, .un]) := h1
  have hz : as.length < 16777216 := by omega
  refine ⟨as ++ [cs], ds', hA.app (by omega), by simp; omega, by simp, ?_⟩
  simp [b9_6, evalSs, evalS.eq_1, evalS.eq_2, evalS.eq_3, evalS.eq_4, evalS.eq_5, evalS.eq_6, evalS.eq_7, evalS.eq_8, evalS.eq_9, evalS.eq_12, evalS.eq_13, evalS.eq_14, evalE.eq_1, evalE.eq_2, evalE.eq_3, evalE.eq_4, evalE.eq_5, evalE.eq_6, evalE.eq_7, evalE.eq_8, evalE.eq_9, evalE.eq_10, evalE.eq_11, evalE.eq_12, evalE.eq_13, evalE.eq_14, evalE.eq_15, evalE.eq_17, evalE.eq_18, evalE.eq_19, evalE.eq_20, evalE.eq_21, evalE.eq_22, evalE.eq_25, evalEs, evalO, evalC, evalIt, evI, evB_v, evB_cN, evB_cB, evB_cI, evB_cS, evB_bin, evB_chain, evB_neg, evB_not, evB_and, evB_or, evB_ite, evB_tup, evB_lst, evB_sli, evB_call, evB_bi, evB_birng, evB_pop, evB_isi, evB_comp, evB_comp2, evB_sset, bval_s, evVar, getS, RV.d, resB, slD, bi1, lenD, opB, op2, tst, andE, orE, asgN, asgs, asgR_d, asgR_n, asgT_n, asgT_t, asgR_t, nxO_s, seqO_nx, seqO_rt, seqO_bk, seqO_ct, okSt_un, okSt_im, okSt_mu, cellD_un, cellD_im, cellD_mu, cellD_pm, cellD_bo, setAt, appAt, revAt, augAt, augD, retE_v, retE_cN, retE_cB, retE_cI, retE_cS, retE_bin, retE_chain, retE_neg, retE_not, retE_and, retE_or, retE_ite, retE_tup, retE_lst, retE_sli, retE_call, retE_bi, retE_birng, retE_pop, retE_isi, retE_comp, retE_comp2, retE_sset, rval_s, shal_int, eqv_int, h1, seqOf, hz]
theorem st7 (L : LK cl) {s q : PyData} (ds : List Int) (ls : List (List (List Int))) (l : List (List Int)) (as : List (List Int)) (c a : Nat) (x5 : Sl) (o5 : okSt x5 = true) (hL : Locks c ls) (hl : l ∈ ls) (hls : ls.length ≤ 1000) (ha : a < ls.length) (hc : c ≤ 1000) (hA : Keys c as) :
    ∃ x : Sl, okSt x = true ∧ evalS cl wf b9_7 [.im s, .mu (il ds), .im (.tuple (ls.map tL)), .im q, .mu (as.map tK), x5, .im (.int a), .im (tL l), .un, .un, .un, .un] = some (.nx [.im s, .mu (il ds), .im (.tuple (ls.map tL)), .im q, .mu (as.map tK), x, .im (.int a), .im (tL l), .un, .un, .un, .un]) := by
  have m8 := L.m8
  have c1 := cut_to (ls.map tL) (v := a) (by rw [List.length_map]; omega)
  have c2 := cut_from (ls.map tL) (v := a) (by rw [List.length_map]; omega)
  have hz : ls.length - a + min a ls.length ≤ 16777216 := by omega
  obtain ⟨e', h1, x, rfl, hx⟩ := for_run (cl := cl) (wf := wf) (tg := .name 5) (it := .e (.var 4)) (body := b9_7b) (env := [.im s, .mu (il ds), .im (.tuple (ls.map tL)), .im q, .mu (as.map tK), x5, .im (.int a), .im (tL l), .un, .un, .un, .un]) (b := some 4) (e1 := [.im s, .mu (il ds), .im (.tuple (ls.map tL)), .im q, .mu (as.map tK), x5, .im (.int a), .im (tL l), .un, .un, .un, .un]) (ds := as.map tK)
    (fun i e => ∃ x : Sl, e = [.im s, .mu (il ds), .im (.tuple (ls.map tL)), .im q, .bo (as.map tK), x, .im (.int a), .im (tL l), .un, .un, .un, .un] ∧ okSt x = true) (by simp [evalSs, evalS.eq_1, evalS.eq_2, evalS.eq_3, evalS.eq_4, evalS.eq_5, evalS.eq_6, evalS.eq_7, evalS.eq_8, evalS.eq_9, evalS.eq_12, evalS.eq_13, evalS.eq_14, evalE.eq_1, evalE.eq_2, evalE.eq_3, evalE.eq_4, evalE.eq_5, evalE.eq_6, evalE.eq_7, evalE.eq_8, evalE.eq_9, evalE.eq_10, evalE.eq_11, evalE.eq_12, evalE.eq_13, evalE.eq_14, evalE.eq_15, evalE.eq_17, evalE.eq_18, evalE.eq_19, evalE.eq_20, evalE.eq_21, evalE.eq_22, evalE.eq_25, evalEs, evalO, evalC, evalIt, evI, evB_v, evB_cN, evB_cB, evB_cI, evB_cS, evB_bin, evB_chain, evB_neg, evB_not, evB_and, evB_or, evB_ite, evB_tup, evB_lst, evB_sli, evB_call, evB_bi, evB_birng, evB_pop, evB_isi, evB_comp, evB_comp2, evB_sset, bval_s, evVar, getS, RV.d, resB, slD, bi1, lenD, opB, op2, tst, andE, orE, asgN, asgs, asgR_d, asgR_n, asgT_n, asgT_t, asgR_t, nxO_s, seqO_nx, seqO_rt, seqO_bk, seqO_ct, okSt_un, okSt_im, okSt_mu, cellD_un, cellD_im, cellD_mu, cellD_pm, cellD_bo, setAt, appAt, revAt, augAt, augD, retE_v, retE_cN, retE_cB, retE_cI, retE_cS, retE_bin, retE_chain, retE_neg, retE_not, retE_and, retE_or, retE_ite, retE_tup, retE_lst, retE_sli, retE_call, retE_bi, retE_birng, retE_pop, retE_isi, retE_comp, retE_comp2, retE_sset, rval_s, shal_int, eqv_int]) ⟨x5, rfl, o5⟩ fun i y e hy ⟨x, he, hx⟩ => by
      subst he
      rw [List.getElem?_map] at hy
      obtain ⟨ky, hy1, rfl⟩ := map_some hy
      have hk := hA ky (List.mem_of_getElem? hy1)
      have q1 := L.says ls ky (fun l hl => by rw [hk, (hL l hl).1]) (by omega) hls (List.ne_nil_of_mem hl)
      have q2 := L.says [l] ky (fun z hz => by rw [List.mem_singleton.mp hz, hk, (hL l hl).1]) (by omega) (by simp) (by simp)
      have q3 := L.says (ls.drop a ++ ls.take a) ky (fun z hz => by
        rcases List.mem_append.mp hz with q | q
        · rw [hk, (hL z (List.mem_of_mem_drop q)).1]
        · rw [hk, (hL z (List.mem_of_mem_take q)).1]) (by omega) (by simp; omega) (fun z => by
          have := congrArg List.length z
          simp at this
          omega)
      simp only [List.map_append, List.map_drop, List.map_take, List.map_cons, List.map_nil] at q2 q3
      exact ⟨[.im s, .mu (il ds), .im (.tuple (ls.map tL)), .im q, .bo (as.map tK), .im (tK ky), .im (.int a), .im (tL l), .un, .un, .un, .un], by simp [evalSs, evalS.eq_1, evalS.eq_2, evalS.eq_3, evalS.eq_4, evalS.eq_5, evalS.eq_6, evalS.eq_7, evalS.eq_8, evalS.eq_9, evalS.eq_12, evalS.eq_13, evalS.eq_14, evalE.eq_1, evalE.eq_2, evalE.eq_3, evalE.eq_4, evalE.eq_5, evalE.eq_6, evalE.eq_7, evalE.eq_8, evalE.eq_9, evalE.eq_10, evalE.eq_11, evalE.eq_12, evalE.eq_13, evalE.eq_14, evalE.eq_15, evalE.eq_17, evalE.eq_18, evalE.eq_19, evalE.eq_20, evalE.eq_21, evalE.eq_22, evalE.eq_25, evalEs, evalO, evalC, evalIt, evI, evB_v, evB_cN, evB_cB, evB_cI, evB_cS, evB_bin, evB_chain, evB_neg, evB_not, evB_and, evB_or, evB_ite, evB_tup, evB_lst, evB_sli, evB_call, evB_bi, evB_birng, evB_pop, evB_isi, evB_comp, evB_comp2, evB_sset, bval_s, evVar, getS, RV.d, resB, slD, bi1, lenD, opB, op2, tst, andE, orE, asgN, asgs, asgR_d, asgR_n, asgT_n, asgT_t, asgR_t, nxO_s, seqO_nx, seqO_rt, seqO_bk, seqO_ct, okSt_un, okSt_im, okSt_mu, cellD_un, cellD_im, cellD_mu, cellD_pm, cellD_bo, setAt, appAt, revAt, augAt, augD, retE_v, retE_cN, retE_cB, retE_cI, retE_cS, retE_bin, retE_chain, retE_neg, retE_not, retE_and, retE_or, retE_ite, retE_tup, retE_lst, retE_sli, retE_call, retE_bi, retE_birng, retE_pop, retE_isi, retE_comp, retE_comp2, retE_sset, rval_s, shal_int, eqv_int, hx], [.im s, .mu (il ds), .im (.tuple (ls.map tL)), .im q, .bo (as.map tK), .im (tK ky), .im (.int a), .im (tL l), .un, .un, .un, .un], .inl (by simp [b9_7b, b9_7b_0, evalE.eq_16, evalA, evAV_v, evAV_cN, evAV_cB, evAV_cI, evAV_cS, evAV_bin, evAV_chain, evAV_neg, evAV_not, evAV_and, evAV_or, evAV_ite, evAV_tup, evAV_lst, evAV_sli, evAV_call, evAV_bi, evAV_birng, evAV_pop, evAV_isi, evAV_comp, evAV_comp2, evAV_sset, aval_s, callE, cellsA, borsA, cargs, setCs, setC, nodupB, evalSs, evalS.eq_1, evalS.eq_2, evalS.eq_3, evalS.eq_4, evalS.eq_5, evalS.eq_6, evalS.eq_7, evalS.eq_8, evalS.eq_9, evalS.eq_12, evalS.eq_13, evalS.eq_14, evalE.eq_1, evalE.eq_2, evalE.eq_3, evalE.eq_4, evalE.eq_5, evalE.eq_6, evalE.eq_7, evalE.eq_8, evalE.eq_9, evalE.eq_10, evalE.eq_11, evalE.eq_12, evalE.eq_13, evalE.eq_14, evalE.eq_15, evalE.eq_17, evalE.eq_18, evalE.eq_19, evalE.eq_20, evalE.eq_21, evalE.eq_22, evalE.eq_25, evalEs, evalO, evalC, evalIt, evI, evB_v, evB_cN, evB_cB, evB_cI, evB_cS, evB_bin, evB_chain, evB_neg, evB_not, evB_and, evB_or, evB_ite, evB_tup, evB_lst, evB_sli, evB_call, evB_bi, evB_birng, evB_pop, evB_isi, evB_comp, evB_comp2, evB_sset, bval_s, evVar, getS, RV.d, resB, slD, bi1, lenD, opB, op2, tst, andE, orE, asgN, asgs, asgR_d, asgR_n, asgT_n, asgT_t, asgR_t, nxO_s, seqO_nx, seqO_rt, seqO_bk, seqO_ct, okSt_un, okSt_im, okSt_mu, cellD_un, cellD_im, cellD_mu, cellD_pm, cellD_bo, setAt, appAt, revAt, augAt, augD, retE_v, retE_cN, retE_cB, retE_cI, retE_cS, retE_bin, retE_chain, retE_neg, retE_not, retE_and, retE_or, retE_ite, retE_tup, retE_lst, retE_sli, retE_call, retE_bi, retE_birng, retE_pop, retE_isi, retE_comp, retE_comp2, retE_sset, rval_s, shal_int, eqv_int, m8, q1, q2, q3, sliD, c1, c2, hz]), .im (tK ky), rfl, rfl⟩
  exact ⟨x, hx, h1⟩
def pr (c : Int) : List (List (List Int)) := [[[c, c + 2], [c]], [[c + 1, c + 2], [c, c + 1]]]
def tellings (c : Int) : List (List Int × Str) := [([c + 2, c], "yes"), ([c + 1, c], "perhaps"), ([c, c + 1], "no"), ([c, c], "perhaps")]
theorem range2 : List.range 2 = [0, 1] := rfl
theorem tell_ok (c : Int) : ∀ p ∈ tellings c, sureV (pr c) p.1 = p.2 ∧ p.1.length = 2 := by
  intro p hp
  have n1 : ¬ c + 2 = c := by omega
  have n2 : ¬ c + 1 = c := by omega
  have n3 : ¬ c + 1 = c + 2 := by omega
  have n4 : ¬ c = c + 1 := by omega
  have n5 : ¬ c = c + 2 := by omega
  have n6 : ¬ c + 2 = c + 1 := by omega
  simp only [tellings, List.mem_cons, List.mem_nil_iff, or_false] at hp
  rcases hp with rfl | rfl | rfl | rfl <;> simp [sureV, pr, opensV, range2, n1, n2, n3, n4, n5, n6]
theorem st10 (L : LK cl) {s p q r : PyData} (ds : List Int) (c : Int) (x4 x5 x6 : Sl) (o5 : okSt x5 = true) :
    ∃ y5 y11 : Sl, evalS cl wf b9_10 [.im s, .mu (il ds), .im p, .im q, x4, x5, x6, .im r, .un, .im (.int c), .im (.tuple ((pr c).map tL)), .un] = some (.nx [.im s, .mu (il ds), .im p, .im q, x4, y5, x6, .im r, .un, .im (.int c), .im (.tuple ((pr c).map tL)), y11]) := by
  have m1 := L.m1
  have s1 : PyData.strOk "yes" = true := by decide +kernel
  have s2 : PyData.strOk "perhaps" = true := by decide +kernel
  have s3 : PyData.strOk "no" = true := by decide +kernel
  have l1 : Str.length "yes" = 3 := by decide +kernel
  have l2 : Str.length "perhaps" = 7 := by decide +kernel
  have l3 : Str.length "no" = 2 := by decide +kernel
  unfold b9_10
  obtain ⟨e', h1, y5, y11, rfl, _, _⟩ := for_run (cl := cl) (wf := wf) (tg := .tup [5, 11]) (it := (.e (.lst (.cons (.tup (.cons (.tup (.cons (.bin .add (.var 9) (.cI 2)) (.cons (.var 9) .nil))) (.cons (.cS "yes") .nil))) (.cons (.tup (.cons (.tup (.cons (.bin .add (.var 9) (.cI 1)) (.cons (.var 9) .nil))) (.cons (.cS "perhaps") .nil))) (.cons (.tup (.cons (.tup (.cons (.var 9) (.cons (.bin .add (.var 9) (.cI 1)) .nil))) (.cons (.cS "no") .nil))) (.cons (.tup (.cons (.tup (.cons (.var 9) (.cons (.var 9) .nil))) (.cons (.cS "perhaps") .nil))) .nil))))))) (body := b9_10b) (env := [.im s, .mu (il ds), .im p, .im q, x4, x5, x6, .im r, .un, .im (.int c), .im (.tuple ((pr c).map tL)), .un]) (b := none) (e1 := [.im s, .mu (il ds), .im p, .im q, x4, x5, x6, .im r, .un, .im (.int c), .im (.tuple ((pr c).map tL)), .un]) (ds := (tellings c).map fun p => .tuple [tK p.1, .str p.2])
    (fun i e => ∃ y5 y11 : Sl, e = [.im s, .mu (il ds), .im p, .im q, x4, y5, x6, .im r, .un, .im (.int c), .im (.tuple ((pr c).map tL)), y11] ∧ okSt y5 = true ∧ okSt y11 = true) (by simp [evalSs, evalS.eq_1, evalS.eq_2, evalS.eq_3, evalS.eq_4, evalS.eq_5, evalS.eq_6, evalS.eq_7, evalS.eq_8, evalS.eq_9, evalS.eq_12, evalS.eq_13, evalS.eq_14, evalE.eq_1, evalE.eq_2, evalE.eq_3, evalE.eq_4, evalE.eq_5, evalE.eq_6, evalE.eq_7, evalE.eq_8, evalE.eq_9, evalE.eq_10, evalE.eq_11, evalE.eq_12, evalE.eq_13, evalE.eq_14, evalE.eq_15, evalE.eq_17, evalE.eq_18, evalE.eq_19, evalE.eq_20, evalE.eq_21, evalE.eq_22, evalE.eq_25, evalEs, evalO, evalC, evalIt, evI, evB_v, evB_cN, evB_cB, evB_cI, evB_cS, evB_bin, evB_chain, evB_neg, evB_not, evB_and, evB_or, evB_ite, evB_tup, evB_lst, evB_sli, evB_call, evB_bi, evB_birng, evB_pop, evB_isi, evB_comp, evB_comp2, evB_sset, bval_s, evVar, getS, RV.d, resB, slD, bi1, lenD, opB, op2, tst, andE, orE, asgN, asgs, asgR_d, asgR_n, asgT_n, asgT_t, asgR_t, nxO_s, seqO_nx, seqO_rt, seqO_bk, seqO_ct, okSt_un, okSt_im, okSt_mu, cellD_un, cellD_im, cellD_mu, cellD_pm, cellD_bo, setAt, appAt, revAt, augAt, augD, retE_v, retE_cN, retE_cB, retE_cI, retE_cS, retE_bin, retE_chain, retE_neg, retE_not, retE_and, retE_or, retE_ite, retE_tup, retE_lst, retE_sli, retE_call, retE_bi, retE_birng, retE_pop, retE_isi, retE_comp, retE_comp2, retE_sset, rval_s, shal_int, eqv_int, s1, s2, s3, l1, l2, l3, tellings]) ⟨x5, .un, rfl, o5, rfl⟩ fun i y e hy ⟨y5, y11, he, o5, o11⟩ => by
      subst he
      rw [List.getElem?_map] at hy
      obtain ⟨pp, hy1, rfl⟩ := map_some hy
      obtain ⟨t1, t2⟩ := tell_ok c pp (List.mem_of_getElem? hy1)
      have qq := L.sure (pr c) pp.1 (fun l hl => by
        simp only [pr, List.mem_cons, List.mem_nil_iff, or_false] at hl
        rcases hl with rfl | rfl <;> simp [t2]) (by omega) (by simp [pr])
      rw [t1] at qq
      exact ⟨[.im s, .mu (il ds), .im p, .im q, x4, .im (tK pp.1), x6, .im r, .un, .im (.int c), .im (.tuple ((pr c).map tL)), .im (.str pp.2)], by simp [evalSs, evalS.eq_1, evalS.eq_2, evalS.eq_3, evalS.eq_4, evalS.eq_5, evalS.eq_6, evalS.eq_7, evalS.eq_8, evalS.eq_9, evalS.eq_12, evalS.eq_13, evalS.eq_14, evalE.eq_1, evalE.eq_2, evalE.eq_3, evalE.eq_4, evalE.eq_5, evalE.eq_6, evalE.eq_7, evalE.eq_8, evalE.eq_9, evalE.eq_10, evalE.eq_11, evalE.eq_12, evalE.eq_13, evalE.eq_14, evalE.eq_15, evalE.eq_17, evalE.eq_18, evalE.eq_19, evalE.eq_20, evalE.eq_21, evalE.eq_22, evalE.eq_25, evalEs, evalO, evalC, evalIt, evI, evB_v, evB_cN, evB_cB, evB_cI, evB_cS, evB_bin, evB_chain, evB_neg, evB_not, evB_and, evB_or, evB_ite, evB_tup, evB_lst, evB_sli, evB_call, evB_bi, evB_birng, evB_pop, evB_isi, evB_comp, evB_comp2, evB_sset, bval_s, evVar, getS, RV.d, resB, slD, bi1, lenD, opB, op2, tst, andE, orE, asgN, asgs, asgR_d, asgR_n, asgT_n, asgT_t, asgR_t, nxO_s, seqO_nx, seqO_rt, seqO_bk, seqO_ct, okSt_un, okSt_im, okSt_mu, cellD_un, cellD_im, cellD_mu, cellD_pm, cellD_bo, setAt, appAt, revAt, augAt, augD, retE_v, retE_cN, retE_cB, retE_cI, retE_cS, retE_bin, retE_chain, retE_neg, retE_not, retE_and, retE_or, retE_ite, retE_tup, retE_lst, retE_sli, retE_call, retE_bi, retE_birng, retE_pop, retE_isi, retE_comp, retE_comp2, retE_sset, rval_s, shal_int, eqv_int, o5, o11], [.im s, .mu (il ds), .im p, .im q, x4, .im (tK pp.1), x6, .im r, .un, .im (.int c), .im (.tuple ((pr c).map tL)), .im (.str pp.2)], .inl (by simp [b9_10b, b9_10b_0, evalE.eq_16, evalA, evAV_v, evAV_cN, evAV_cB, evAV_cI, evAV_cS, evAV_bin, evAV_chain, evAV_neg, evAV_not, evAV_and, evAV_or, evAV_ite, evAV_tup, evAV_lst, evAV_sli, evAV_call, evAV_bi, evAV_birng, evAV_pop, evAV_isi, evAV_comp, evAV_comp2, evAV_sset, aval_s, callE, cellsA, borsA, cargs, setCs, setC, nodupB, evalSs, evalS.eq_1, evalS.eq_2, evalS.eq_3, evalS.eq_4, evalS.eq_5, evalS.eq_6, evalS.eq_7, evalS.eq_8, evalS.eq_9, evalS.eq_12, evalS.eq_13, evalS.eq_14, evalE.eq_1, evalE.eq_2, evalE.eq_3, evalE.eq_4, evalE.eq_5, evalE.eq_6, evalE.eq_7, evalE.eq_8, evalE.eq_9, evalE.eq_10, evalE.eq_11, evalE.eq_12, evalE.eq_13, evalE.eq_14, evalE.eq_15, evalE.eq_17, evalE.eq_18, evalE.eq_19, evalE.eq_20, evalE.eq_21, evalE.eq_22, evalE.eq_25, evalEs, evalO, evalC, evalIt, evI, evB_v, evB_cN, evB_cB, evB_cI, evB_cS, evB_bin, evB_chain, evB_neg, evB_not, evB_and, evB_or, evB_ite, evB_tup, evB_lst, evB_sli, evB_call, evB_bi, evB_birng, evB_pop, evB_isi, evB_comp, evB_comp2, evB_sset, bval_s, evVar, getS, RV.d, resB, slD, bi1, lenD, opB, op2, tst, andE, orE, asgN, asgs, asgR_d, asgR_n, asgT_n, asgT_t, asgR_t, nxO_s, seqO_nx, seqO_rt, seqO_bk, seqO_ct, okSt_un, okSt_im, okSt_mu, cellD_un, cellD_im, cellD_mu, cellD_pm, cellD_bo, setAt, appAt, revAt, augAt, augD, retE_v, retE_cN, retE_cB, retE_cI, retE_cS, retE_bin, retE_chain, retE_neg, retE_not, retE_and, retE_or, retE_ite, retE_tup, retE_lst, retE_sli, retE_call, retE_bi, retE_birng, retE_pop, retE_isi, retE_comp, retE_comp2, retE_sset, rval_s, shal_int, eqv_int, m1, qq, shal_str, eqv_str]), .im (tK pp.1), .im (.str pp.2), rfl, rfl, rfl⟩
  exact ⟨y5, y11, h1⟩
theorem law_body (L : LK cl) (ns : List Int) (hn : ns.length ≤ 63) : ∃ e, evalSs cl wf b9 [.im (.list (il ns)), .un, .un, .un, .un, .un, .un, .un, .un, .un, .un, .un] = some (.rt (.dat (.bool true)) e) := by
  obtain ⟨ds, h0⟩ := L.draws ns hn
  obtain ⟨c, ls, ks, d1, c1, c2, hL, hl0, hl, hK, hk0, hk, h1⟩ := L.tries ds
  have m1 := L.m1
  have m2 := L.m2
  have m3 := L.m3
  have m7 := L.m7
  have m8 := L.m8
  obtain ⟨as, d2, x5, x6, o5, o6, hA, ha0, hal, h3⟩ := st3 (wf := wf) (s := .list (il ns)) L d1 (.tuple (ls.map tL)) c ks c1 c2 hK hk0 hk
  obtain ⟨a, d3, t4, l4⟩ := L.take d2 ls.length (by omega)
  obtain ⟨l, g5⟩ : ∃ x, ls[a]? = some x := ⟨_, List.getElem?_eq_getElem (by omega)⟩
  have hlm := List.mem_of_getElem? g5
  have j5 : ixn ls.length (a : Int) = some a := ixn_nat (by omega)
  obtain ⟨as', d4, hA', hal', ha0', h6⟩ := st6 (wf := wf) (s := .list (il ns)) (p := .tuple (ls.map tL)) (q := .tuple (ks.map tK)) L d3 l as c a x5 (hL l hlm).1 (hL l hlm).2 c2 hal hA
  obtain ⟨y5, oy5, h7⟩ := st7 (wf := wf) (s := .list (il ns)) (q := .tuple (ks.map tK)) L d4 ls l as' c a x5 o5 hL hlm hl (by omega) c2 hA'
  obtain ⟨u, d5, t8, _⟩ := L.take d4 9 (by omega)
  obtain ⟨z5, z11, h10⟩ := st10 (wf := wf) (s := .list (il ns)) (p := .tuple (ls.map tL)) (q := .tuple (ks.map tK)) (r := tL l) L d5 (u : Int) (.mu (as'.map tK)) y5 (.im (.int a)) oy5
  obtain ⟨k0, g0⟩ : ∃ x, as'[0]? = some x := ⟨_, List.getElem?_eq_getElem ha0'⟩
  have hk0 := hA' k0 (List.mem_of_getElem? g0)
  have q11 := L.says ls k0 (fun l hl => by rw [hk0, (hL l hl).1]) (by omega) hl (List.ne_nil_of_mem hlm)
  have j0 : ixn as'.length 0 = some 0 := ixn_nat (i := 0) ha0'
  rw [b9, ss_cons_nx (e := [.im (.list (il ns)), .mu (il ds), .un, .un, .un, .un, .un, .un, .un, .un, .un, .un]) (by simp [b9_0, evalE.eq_16, evalA, evAV_v, evAV_cN, evAV_cB, evAV_cI, evAV_cS, evAV_bin, evAV_chain, evAV_neg, evAV_not, evAV_and, evAV_or, evAV_ite, evAV_tup, evAV_lst, evAV_sli, evAV_call, evAV_bi, evAV_birng, evAV_pop, evAV_isi, evAV_comp, evAV_comp2, evAV_sset, aval_s, callE, cellsA, borsA, cargs, setCs, setC, nodupB, evalSs, evalS.eq_1, evalS.eq_2, evalS.eq_3, evalS.eq_4, evalS.eq_5, evalS.eq_6, evalS.eq_7, evalS.eq_8, evalS.eq_9, evalS.eq_12, evalS.eq_13, evalS.eq_14, evalE.eq_1, evalE.eq_2, evalE.eq_3, evalE.eq_4, evalE.eq_5, evalE.eq_6, evalE.eq_7, evalE.eq_8, evalE.eq_9, evalE.eq_10, evalE.eq_11, evalE.eq_12, evalE.eq_13, evalE.eq_14, evalE.eq_15, evalE.eq_17, evalE.eq_18, evalE.eq_19, evalE.eq_20, evalE.eq_21, evalE.eq_22, evalE.eq_25, evalEs, evalO, evalC, evalIt, evI, evB_v, evB_cN, evB_cB, evB_cI, evB_cS, evB_bin, evB_chain, evB_neg, evB_not, evB_and, evB_or, evB_ite, evB_tup, evB_lst, evB_sli, evB_call, evB_bi, evB_birng, evB_pop, evB_isi, evB_comp, evB_comp2, evB_sset, bval_s, evVar, getS, RV.d, resB, slD, bi1, lenD, opB, op2, tst, andE, orE, asgN, asgs, asgR_d, asgR_n, asgT_n, asgT_t, asgR_t, nxO_s, seqO_nx, seqO_rt, seqO_bk, seqO_ct, okSt_un, okSt_im, okSt_mu, cellD_un, cellD_im, cellD_mu, cellD_pm, cellD_bo, setAt, appAt, revAt, augAt, augD, retE_v, retE_cN, retE_cB, retE_cI, retE_cS, retE_bin, retE_chain, retE_neg, retE_not, retE_and, retE_or, retE_ite, retE_tup, retE_lst, retE_sli, retE_call, retE_bi, retE_birng, retE_pop, retE_isi, retE_comp, retE_comp2, retE_sset, rval_s, shal_int, eqv_int, m2, h0]),
    ss_cons_nx (e := [.im (.list (il ns)), .mu (il d1), .im (.tuple (ls.map tL)), .im (.tuple (ks.map tK)), .un, .un, .un, .un, .un, .un, .un, .un]) (by simp [b9_1, evalE.eq_16, evalA, evAV_v, evAV_cN, evAV_cB, evAV_cI, evAV_cS, evAV_bin, evAV_chain, evAV_neg, evAV_not, evAV_and, evAV_or, evAV_ite, evAV_tup, evAV_lst, evAV_sli, evAV_call, evAV_bi, evAV_birng, evAV_pop, evAV_isi, evAV_comp, evAV_comp2, evAV_sset, aval_s, callE, cellsA, borsA, cargs, setCs, setC, nodupB, evalSs, evalS.eq_1, evalS.eq_2, evalS.eq_3, evalS.eq_4, evalS.eq_5, evalS.eq_6, evalS.eq_7, evalS.eq_8, evalS.eq_9, evalS.eq_12, evalS.eq_13, evalS.eq_14, evalE.eq_1, evalE.eq_2, evalE.eq_3, evalE.eq_4, evalE.eq_5, evalE.eq_6, evalE.eq_7, evalE.eq_8, evalE.eq_9, evalE.eq_10, evalE.eq_11, evalE.eq_12, evalE.eq_13, evalE.eq_14, evalE.eq_15, evalE.eq_17, evalE.eq_18, evalE.eq_19, evalE.eq_20, evalE.eq_21, evalE.eq_22, evalE.eq_25, evalEs, evalO, evalC, evalIt, evI, evB_v, evB_cN, evB_cB, evB_cI, evB_cS, evB_bin, evB_chain, evB_neg, evB_not, evB_and, evB_or, evB_ite, evB_tup, evB_lst, evB_sli, evB_call, evB_bi, evB_birng, evB_pop, evB_isi, evB_comp, evB_comp2, evB_sset, bval_s, evVar, getS, RV.d, resB, slD, bi1, lenD, opB, op2, tst, andE, orE, asgN, asgs, asgR_d, asgR_n, asgT_n, asgT_t, asgR_t, nxO_s, seqO_nx, seqO_rt, seqO_bk, seqO_ct, okSt_un, okSt_im, okSt_mu, cellD_un, cellD_im, cellD_mu, cellD_pm, cellD_bo, setAt, appAt, revAt, augAt, augD, retE_v, retE_cN, retE_cB, retE_cI, retE_cS, retE_bin, retE_chain, retE_neg, retE_not, retE_and, retE_or, retE_ite, retE_tup, retE_lst, retE_sli, retE_call, retE_bi, retE_birng, retE_pop, retE_isi, retE_comp, retE_comp2, retE_sset, rval_s, shal_int, eqv_int, m7, h1]),
    ss_cons_nx (e := [.im (.list (il ns)), .mu (il d1), .im (.tuple (ls.map tL)), .im (.tuple (ks.map tK)), .mu (ks.map tK), .un, .un, .un, .un, .un, .un, .un]) (by simp [b9_2, evalSs, evalS.eq_1, evalS.eq_2, evalS.eq_3, evalS.eq_4, evalS.eq_5, evalS.eq_6, evalS.eq_7, evalS.eq_8, evalS.eq_9, evalS.eq_12, evalS.eq_13, evalS.eq_14, evalE.eq_1, evalE.eq_2, evalE.eq_3, evalE.eq_4, evalE.eq_5, evalE.eq_6, evalE.eq_7, evalE.eq_8, evalE.eq_9, evalE.eq_10, evalE.eq_11, evalE.eq_12, evalE.eq_13, evalE.eq_14, evalE.eq_15, evalE.eq_17, evalE.eq_18, evalE.eq_19, evalE.eq_20, evalE.eq_21, evalE.eq_22, evalE.eq_25, evalEs, evalO, evalC, evalIt, evI, evB_v, evB_cN, evB_cB, evB_cI, evB_cS, evB_bin, evB_chain, evB_neg, evB_not, evB_and, evB_or, evB_ite, evB_tup, evB_lst, evB_sli, evB_call, evB_bi, evB_birng, evB_pop, evB_isi, evB_comp, evB_comp2, evB_sset, bval_s, evVar, getS, RV.d, resB, slD, bi1, lenD, opB, op2, tst, andE, orE, asgN, asgs, asgR_d, asgR_n, asgT_n, asgT_t, asgR_t, nxO_s, seqO_nx, seqO_rt, seqO_bk, seqO_ct, okSt_un, okSt_im, okSt_mu, cellD_un, cellD_im, cellD_mu, cellD_pm, cellD_bo, setAt, appAt, revAt, augAt, augD, retE_v, retE_cN, retE_cB, retE_cI, retE_cS, retE_bin, retE_chain, retE_neg, retE_not, retE_and, retE_or, retE_ite, retE_tup, retE_lst, retE_sli, retE_call, retE_bi, retE_birng, retE_pop, retE_isi, retE_comp, retE_comp2, retE_sset, rval_s, shal_int, eqv_int, seqOf]),
    ss_cons_nx h3,
    ss_cons_nx (e := [.im (.list (il ns)), .mu (il d3), .im (.tuple (ls.map tL)), .im (.tuple (ks.map tK)), .mu (as.map tK), x5, .im (.int a), .un, .un, .un, .un, .un]) (by simp [b9_4, evalE.eq_16, evalA, evAV_v, evAV_cN, evAV_cB, evAV_cI, evAV_cS, evAV_bin, evAV_chain, evAV_neg, evAV_not, evAV_and, evAV_or, evAV_ite, evAV_tup, evAV_lst, evAV_sli, evAV_call, evAV_bi, evAV_birng, evAV_pop, evAV_isi, evAV_comp, evAV_comp2, evAV_sset, aval_s, callE, cellsA, borsA, cargs, setCs, setC, nodupB, evalSs, evalS.eq_1, evalS.eq_2, evalS.eq_3, evalS.eq_4, evalS.eq_5, evalS.eq_6, evalS.eq_7, evalS.eq_8, evalS.eq_9, evalS.eq_12, evalS.eq_13, evalS.eq_14, evalE.eq_1, evalE.eq_2, evalE.eq_3, evalE.eq_4, evalE.eq_5, evalE.eq_6, evalE.eq_7, evalE.eq_8, evalE.eq_9, evalE.eq_10, evalE.eq_11, evalE.eq_12, evalE.eq_13, evalE.eq_14, evalE.eq_15, evalE.eq_17, evalE.eq_18, evalE.eq_19, evalE.eq_20, evalE.eq_21, evalE.eq_22, evalE.eq_25, evalEs, evalO, evalC, evalIt, evI, evB_v, evB_cN, evB_cB, evB_cI, evB_cS, evB_bin, evB_chain, evB_neg, evB_not, evB_and, evB_or, evB_ite, evB_tup, evB_lst, evB_sli, evB_call, evB_bi, evB_birng, evB_pop, evB_isi, evB_comp, evB_comp2, evB_sset, bval_s, evVar, getS, RV.d, resB, slD, bi1, lenD, opB, op2, tst, andE, orE, asgN, asgs, asgR_d, asgR_n, asgT_n, asgT_t, asgR_t, nxO_s, seqO_nx, seqO_rt, seqO_bk, seqO_ct, okSt_un, okSt_im, okSt_mu, cellD_un, cellD_im, cellD_mu, cellD_pm, cellD_bo, setAt, appAt, revAt, augAt, augD, retE_v, retE_cN, retE_cB, retE_cI, retE_cS, retE_bin, retE_chain, retE_neg, retE_not, retE_and, retE_or, retE_ite, retE_tup, retE_lst, retE_sli, retE_call, retE_bi, retE_birng, retE_pop, retE_isi, retE_comp, retE_comp2, retE_sset, rval_s, shal_int, eqv_int, m3, t4, o6]),
    ss_cons_nx (e := [.im (.list (il ns)), .mu (il d3), .im (.tuple (ls.map tL)), .im (.tuple (ks.map tK)), .mu (as.map tK), x5, .im (.int a), .im (tL l), .un, .un, .un, .un]) (by simp [b9_5, evalSs, evalS.eq_1, evalS.eq_2, evalS.eq_3, evalS.eq_4, evalS.eq_5, evalS.eq_6, evalS.eq_7, evalS.eq_8, evalS.eq_9, evalS.eq_12, evalS.eq_13, evalS.eq_14, evalE.eq_1, evalE.eq_2, evalE.eq_3, evalE.eq_4, evalE.eq_5, evalE.eq_6, evalE.eq_7, evalE.eq_8, evalE.eq_9, evalE.eq_10, evalE.eq_11, evalE.eq_12, evalE.eq_13, evalE.eq_14, evalE.eq_15, evalE.eq_17, evalE.eq_18, evalE.eq_19, evalE.eq_20, evalE.eq_21, evalE.eq_22, evalE.eq_25, evalEs, evalO, evalC, evalIt, evI, evB_v, evB_cN, evB_cB, evB_cI, evB_cS, evB_bin, evB_chain, evB_neg, evB_not, evB_and, evB_or, evB_ite, evB_tup, evB_lst, evB_sli, evB_call, evB_bi, evB_birng, evB_pop, evB_isi, evB_comp, evB_comp2, evB_sset, bval_s, evVar, getS, RV.d, resB, slD, bi1, lenD, opB, op2, tst, andE, orE, asgN, asgs, asgR_d, asgR_n, asgT_n, asgT_t, asgR_t, nxO_s, seqO_nx, seqO_rt, seqO_bk, seqO_ct, okSt_un, okSt_im, okSt_mu, cellD_un, cellD_im, cellD_mu, cellD_pm, cellD_bo, setAt, appAt, revAt, augAt, augD, retE_v, retE_cN, retE_cB, retE_cI, retE_cS, retE_bin, retE_chain, retE_neg, retE_not, retE_and, retE_or, retE_ite, retE_tup, retE_lst, retE_sli, retE_call, retE_bi, retE_birng, retE_pop, retE_isi, retE_comp, retE_comp2, retE_sset, rval_s, shal_int, eqv_int, j5, g5]),
    ss_cons_nx h6, ss_cons_nx h7,
    ss_cons_nx (e := [.im (.list (il ns)), .mu (il d5), .im (.tuple (ls.map tL)), .im (.tuple (ks.map tK)), .mu (as'.map tK), y5, .im (.int a), .im (tL l), .un, .im (.int u), .un, .un]) (by simp [b9_8, evalE.eq_16, evalA, evAV_v, evAV_cN, evAV_cB, evAV_cI, evAV_cS, evAV_bin, evAV_chain, evAV_neg, evAV_not, evAV_and, evAV_or, evAV_ite, evAV_tup, evAV_lst, evAV_sli, evAV_call, evAV_bi, evAV_birng, evAV_pop, evAV_isi, evAV_comp, evAV_comp2, evAV_sset, aval_s, callE, cellsA, borsA, cargs, setCs, setC, nodupB, evalSs, evalS.eq_1, evalS.eq_2, evalS.eq_3, evalS.eq_4, evalS.eq_5, evalS.eq_6, evalS.eq_7, evalS.eq_8, evalS.eq_9, evalS.eq_12, evalS.eq_13, evalS.eq_14, evalE.eq_1, evalE.eq_2, evalE.eq_3, evalE.eq_4, evalE.eq_5, evalE.eq_6, evalE.eq_7, evalE.eq_8, evalE.eq_9, evalE.eq_10, evalE.eq_11, evalE.eq_12, evalE.eq_13, evalE.eq_14, evalE.eq_15, evalE.eq_17, evalE.eq_18, evalE.eq_19, evalE.eq_20, evalE.eq_21, evalE.eq_22, evalE.eq_25, evalEs, evalO, evalC, evalIt, evI, evB_v, evB_cN, evB_cB, evB_cI, evB_cS, evB_bin, evB_chain, evB_neg, evB_not, evB_and, evB_or, evB_ite, evB_tup, evB_lst, evB_sli, evB_call, evB_bi, evB_birng, evB_pop, evB_isi, evB_comp, evB_comp2, evB_sset, bval_s, evVar, getS, RV.d, resB, slD, bi1, lenD, opB, op2, tst, andE, orE, asgN, asgs, asgR_d, asgR_n, asgT_n, asgT_t, asgR_t, nxO_s, seqO_nx, seqO_rt, seqO_bk, seqO_ct, okSt_un, okSt_im, okSt_mu, cellD_un, cellD_im, cellD_mu, cellD_pm, cellD_bo, setAt, appAt, revAt, augAt, augD, retE_v, retE_cN, retE_cB, retE_cI, retE_cS, retE_bin, retE_chain, retE_neg, retE_not, retE_and, retE_or, retE_ite, retE_tup, retE_lst, retE_sli, retE_call, retE_bi, retE_birng, retE_pop, retE_isi, retE_comp, retE_comp2, retE_sset, rval_s, shal_int, eqv_int, m3, t8]),
    ss_cons_nx (e := [.im (.list (il ns)), .mu (il d5), .im (.tuple (ls.map tL)), .im (.tuple (ks.map tK)), .mu (as'.map tK), y5, .im (.int a), .im (tL l), .un, .im (.int u), .im (.tuple ((pr u).map tL)), .un]) (by simp [b9_9, evalSs, evalS.eq_1, evalS.eq_2, evalS.eq_3, evalS.eq_4, evalS.eq_5, evalS.eq_6, evalS.eq_7, evalS.eq_8, evalS.eq_9, evalS.eq_12, evalS.eq_13, evalS.eq_14, evalE.eq_1, evalE.eq_2, evalE.eq_3, evalE.eq_4, evalE.eq_5, evalE.eq_6, evalE.eq_7, evalE.eq_8, evalE.eq_9, evalE.eq_10, evalE.eq_11, evalE.eq_12, evalE.eq_13, evalE.eq_14, evalE.eq_15, evalE.eq_17, evalE.eq_18, evalE.eq_19, evalE.eq_20, evalE.eq_21, evalE.eq_22, evalE.eq_25, evalEs, evalO, evalC, evalIt, evI, evB_v, evB_cN, evB_cB, evB_cI, evB_cS, evB_bin, evB_chain, evB_neg, evB_not, evB_and, evB_or, evB_ite, evB_tup, evB_lst, evB_sli, evB_call, evB_bi, evB_birng, evB_pop, evB_isi, evB_comp, evB_comp2, evB_sset, bval_s, evVar, getS, RV.d, resB, slD, bi1, lenD, opB, op2, tst, andE, orE, asgN, asgs, asgR_d, asgR_n, asgT_n, asgT_t, asgR_t, nxO_s, seqO_nx, seqO_rt, seqO_bk, seqO_ct, okSt_un, okSt_im, okSt_mu, cellD_un, cellD_im, cellD_mu, cellD_pm, cellD_bo, setAt, appAt, revAt, augAt, augD, retE_v, retE_cN, retE_cB, retE_cI, retE_cS, retE_bin, retE_chain, retE_neg, retE_not, retE_and, retE_or, retE_ite, retE_tup, retE_lst, retE_sli, retE_call, retE_bi, retE_birng, retE_pop, retE_isi, retE_comp, retE_comp2, retE_sset, rval_s, shal_int, eqv_int, pr]),
    ss_cons_nx h10]
  exact ⟨_, by simp [b9_11, evalE.eq_16, evalA, evAV_v, evAV_cN, evAV_cB, evAV_cI, evAV_cS, evAV_bin, evAV_chain, evAV_neg, evAV_not, evAV_and, evAV_or, evAV_ite, evAV_tup, evAV_lst, evAV_sli, evAV_call, evAV_bi, evAV_birng, evAV_pop, evAV_isi, evAV_comp, evAV_comp2, evAV_sset, aval_s, callE, cellsA, borsA, cargs, setCs, setC, nodupB, evalSs, evalS.eq_1, evalS.eq_2, evalS.eq_3, evalS.eq_4, evalS.eq_5, evalS.eq_6, evalS.eq_7, evalS.eq_8, evalS.eq_9, evalS.eq_12, evalS.eq_13, evalS.eq_14, evalE.eq_1, evalE.eq_2, evalE.eq_3, evalE.eq_4, evalE.eq_5, evalE.eq_6, evalE.eq_7, evalE.eq_8, evalE.eq_9, evalE.eq_10, evalE.eq_11, evalE.eq_12, evalE.eq_13, evalE.eq_14, evalE.eq_15, evalE.eq_17, evalE.eq_18, evalE.eq_19, evalE.eq_20, evalE.eq_21, evalE.eq_22, evalE.eq_25, evalEs, evalO, evalC, evalIt, evI, evB_v, evB_cN, evB_cB, evB_cI, evB_cS, evB_bin, evB_chain, evB_neg, evB_not, evB_and, evB_or, evB_ite, evB_tup, evB_lst, evB_sli, evB_call, evB_bi, evB_birng, evB_pop, evB_isi, evB_comp, evB_comp2, evB_sset, bval_s, evVar, getS, RV.d, resB, slD, bi1, lenD, opB, op2, tst, andE, orE, asgN, asgs, asgR_d, asgR_n, asgT_n, asgT_t, asgR_t, nxO_s, seqO_nx, seqO_rt, seqO_bk, seqO_ct, okSt_un, okSt_im, okSt_mu, cellD_un, cellD_im, cellD_mu, cellD_pm, cellD_bo, setAt, appAt, revAt, augAt, augD, retE_v, retE_cN, retE_cB, retE_cI, retE_cS, retE_bin, retE_chain, retE_neg, retE_not, retE_and, retE_or, retE_ite, retE_tup, retE_lst, retE_sli, retE_call, retE_bi, retE_birng, retE_pop, retE_isi, retE_comp, retE_comp2, retE_sset, rval_s, shal_int, eqv_int, m8, j0, g0, q11]; rfl⟩
theorem lk (wf k : Nat) : LK (clAt T wf (k + 4)) where
  m1 := rfl
  m2 := rfl
  m3 := rfl
  m7 := rfl
  m8 := rfl
  draws := fun ns hn => by
    rw [clAt_run]
    obtain ⟨ds, h, _⟩ := draws_spec1 (T := T) (wf := wf) (k := k + 3) (id := 2) rfl ns 1000 hn (by decide)
    exact ⟨ds, h⟩
  take := fun ds m hm => by
    rw [clAt_run]
    exact take_ex (T := T) rfl ds m hm
  tries := fun ds => by
    rw [clAt_run]
    have ht : ∀ j, Takes (clAt T wf (j + 1)) := fun j ds m hm => by rw [clAt_run]; exact take_ex (T := T) rfl ds m hm
    have hLt : Lets (clAt T wf (k + 2)) := fun ds d hd => by rw [clAt_run]; exact lets_ok ds d hd
    have hLK : LKs (clAt T wf (k + 3)) := fun ds many cnt a1 a2 a3 a4 => by
      rw [clAt_run]
      obtain ⟨c, ls, ks, ds', e, b1, b2, b3, b4, b5, b6', b7', b8'⟩ := lkeys_body (cl := clAt T wf (k + 2)) (wf := wf) rfl rfl (ht _) hLt ds many cnt a1 a2 a3 a4
      exact ⟨c, ls, ks, ds', b1, b2, b3, b4, b5, b6', run_eq (d := d6) (b := b6) (e0 := [.pm (il ds), .im (.int many), .im (.int cnt), .un, .un, .un, .un, .un, .un, .un, .un]) rfl rfl rfl rfl b7' b8'⟩
    obtain ⟨c, ls, ks, ds', e, b1, b2, b3, b4, b5, b6', b7', b8', b9', b10'⟩ := tries_body (cl := clAt T wf (k + 3)) (wf := wf) rfl rfl (ht _) hLK ds
    exact ⟨c, ls, ks, ds', b1, b2, b3, b4, b5, b6', b7', b8', run_eq (d := d7) (b := b7) (e0 := [.pm (il ds), .un]) rfl rfl rfl rfl b9' b10'⟩
  says := fun ls ky h hk hl hne => by
    rw [clAt_run]
    exact says_ok (k := k + 1) h hk hl hne
  sure := fun ls ky h hk hl => by
    rw [clAt_run]
    exact sure_ok (k := k + 2) h hk hl
end
def lv : Nat := 5
def wf : Nat := 0
theorem law_holds (ns : List Int) (hn : ns.length ≤ 63) : callAt T wf lv 9 [.im (.list (ns.map PyData.int))] = some (.dat (.bool true), []) := by
  obtain ⟨e, h⟩ := law_body (wf := wf) (lk wf 0) ns hn
  exact run_eq (k := 4) (d := d9) (b := b9) (e0 := [.im (.list (il ns)), .un, .un, .un, .un, .un, .un, .un, .un, .un, .un, .un]) rfl rfl rfl rfl h rfl

end K49

open PySem PySem.W PyProof.Rows in
set_option maxRecDepth 100000 in
set_option maxHeartbeats 0 in
theorem PySem.Challenge.cw_noghostkey_k49_what_surely_opens_holds : PySem.Challenge.rw_noghostkey_k49_what_surely_opens.Holds := by
  w_on; o_law; k_head; (case hw => w_witness2)
  k_fill
  refine NG.walk_ng (l := PySem.Challenge.rw_noghostkey_k49_what_surely_opens) (id := 9) (fns := K49.fns) (T := K49.T) K49.lv K49.wf rfl rfl ⟨rfl, by decide, by decide⟩ (fun w h Y => PySem.W.kIn_of Y) rfl K49.law_holds ?hK ?hB ?F
  case hK => intro w; exact rfl
  case hB => intro w; exact rfl
  case F =>
    intro w mg fa h KX G hmg
    refine' K49.all_mk KX G hmg ?a0 ?l0 ?c0 ?k0 ?a1 ?l1 ?c1 ?k1 ?a2 ?l2 ?c2 ?k2 ?a3 ?l3 ?c3 ?k3 ?a4 ?l4 ?c4 ?k4 ?a5 ?l5 ?c5 ?k5 ?a6 ?l6 ?c6 ?k6 ?a7 ?l7 ?c7 ?k7 ?a8 ?l8 ?c8 ?k8 ?a9 ?l9 ?c9 ?k9
    (case a0 => k_is)
    (case l0 => k_is)
    (case c0 => k_is)
    (case k0 => k_is)
    (case a1 => k_is)
    (case l1 => k_is)
    (case c1 => k_is)
    (case k1 => k_is)
    (case a2 => k_is)
    (case l2 => k_is)
    (case c2 => k_is)
    (case k2 => k_is)
    (case a3 => k_is)
    (case l3 => k_is)
    (case c3 => k_is)
    (case k3 => k_is)
    (case a4 => k_is)
    (case l4 => k_is)
    (case c4 => k_is)
    (case k4 => k_is)
    (case a5 => k_is)
    (case l5 => k_is)
    (case c5 => k_is)
    (case k5 => k_is)
    (case a6 => k_is)
    (case l6 => k_is)
    (case c6 => k_is)
    (case k6 => k_is)
    (case a7 => k_is)
    (case l7 => k_is)
    (case c7 => k_is)
    (case k7 => k_is)
    (case a8 => k_is)
    (case l8 => k_is)
    (case c8 => k_is)
    (case k8 => k_is)
    (case a9 => k_is)
    (case l9 => k_is)
    (case c9 => k_is)
    (case k9 => k_is)
#print axioms PySem.Challenge.cw_noghostkey_k49_what_surely_opens_holds
