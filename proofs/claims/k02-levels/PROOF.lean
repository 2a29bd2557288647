import PyProof.Rows.All
import Wide.All
import OpenK.AllK
import Wide.FinOn
import HandS.ForMost
import HandS.Flow
import HandS.Zip
import HandS.TupAny
import HandS.SortInts
import HandS.Deep
import HandS.IsInst
import HandS.Conv
import HandS.Rev
import HandS.RevRange
import KE.SortData
import KE.DataEq
import HandS.SetFor
import HandS.Strs
import PyProof.SeqIndex
import HandS.Style
import KE.GoesEnum
import KE.GoesMore
import HandS.SortKw
import KE.DataMinMax
import KE.LtData
import KE.KRevSl
import PySem.Challenge.RW_deedwebs_k02_levels_and_slack_of_sixty_d
import HandS.Ends
import HandS.More
import HandS.Words
import HandS.WordsExc
import HandS.Defaults
import KE.KStateDown
import Lean
import HandS.Head0
import HandS.Head1
import HandS.Head2
import HandS.HeadEnd
import HandS.HeadHook1
import HandS.HeadHook2

section
set_option Elab.async false
set_option linter.all false
set_option maxRecDepth 100000
/-! PD: plain data programs: an IR by slots, its evaluator over PyData with owned lists. -/
namespace PD
open PySem L2

abbrev D := PyData

/-- what a slot holds: frozen data, an owned list -/
inductive O where
  | d (x : D)
  | lst (os : List O)

mutual
def O.toD : O → D
  | .d x => x
  | .lst os => .list (O.toDs os)
def O.toDs : List O → List D
  | [] => []
  | o :: os => o.toD :: O.toDs os
end

/-- the items of an owned list, all of them data -/
def datas : List O → Option (List D)
  | [] => some []
  | .d x :: os => (datas os).map (x :: ·)
  | _ :: _ => none

abbrev Env := List (Option O)

inductive Op2 where
  | add | sub | mul | fdiv | mod | pow | eq | ne | lt | le | gt | ge | isin | notin | isN | notN | ix
inductive Op1 where
  | neg
inductive Fn where
  | len | abs | int | list | tuple | sorted | sset | sum | max | min | max0 | all | any | max2 | min2 | index | revT | evn
inductive Ty where
  | int | bool | str | list | tuple | none
  deriving DecidableEq
inductive Tg where
  | name (i : Nat)
  | tup (is : List Nat)

mutual
inductive IE where
  | var (i : Nat)
  | cint (k : Int) | cbl (b : Bool) | cnon | cstr (s : Str)
  | op2 (o : Op2) (a b : IE)
  | op1 (o : Op1) (a : IE)
  | fn (f : Fn) (es : List IE)
  | chain (o o' : Op2) (a b c : IE)
  | and (a b : IE) | or (a b : IE) | not (a : IE)
  | ite (c a b : IE)
  | tup (es : List IE) | lst (es : List IE)
  | slc (a : IE) (lo hi : Option IE)
  | rev (a : IE)
  | lrng1 (a : IE)
  | lrng2 (a b : IE)
  | call (f : Nat) (es : List IE)
  | idx (tup : Bool) (a b : IE)
  | isi (a : IE) (t : Ty)
  | isiT (a : IE) (ts : List Ty)
  | comp (elt : IE) (tg : Tg) (src : Src) (cond : Option IE) (vs : List Nat)
  | comp2 (elt : IE) (tg : Tg) (src : Src) (cond : Option IE) (tg1 : Tg) (src1 : Src) (cond1 : Option IE) (vs vs1 : List Nat)
inductive Src where
  | seq (e : IE)
  | rng1 (a : IE) | rng2 (a b : IE) | rng3 (a b c : IE)
  | enum (e : IE)
  | zip (a b : IE)
end

inductive IS where
  | asg (i : Nat) (e : IE)
  | pars (sw : Bool) (is : List Nat) (es : List IE)
  | unp (is : List Nat) (e : IE)
  | ifs (c : IE) (a b : List IS)
  | fors (tg : Tg) (src : Src) (body : List IS)
  | whl (c : IE) (body : List IS)
  | ret (e : IE) | retN
  | app (i : Nat) (e : IE)
  | appix (i : Nat) (k : IE) (j : Nat)
  | setix (i : Nat) (k : IE) (e : IE)
  | expr (e : IE)
  | brk | cnt | pass | never

/-! ### operations on resolved values -/
def asInt : O → Option Int
  | .d (.int i) => some i
  | _ => none
def asStr : O → Option Str
  | .d (.str s) => some s
  | _ => none
def asTup : O → Option (List D)
  | .d (.tuple xs) => some xs
  | _ => none
def asList : O → Option (List D)
  | .d (.list xs) => some xs
  | .lst os => datas os
  | _ => none
def asSeq (o : O) : Option (List D) :=
  match asList o with
  | some xs => some xs
  | none => asTup o

def mkL (xs : List D) : O := .lst (xs.map .d)
def oInt (i : Int) : O := .d (.int i)
def oBl (b : Bool) : O := .d (.bool b)

def guardB {α : Type} (b : Bool) (x : Option α) : Option α := if b = true then x else none

def cutD {α : Type} (xs : List α) (lo hi : Option Int) : List α := (xs.drop (HT.sIx xs.length 0 lo)).take (HT.sIx xs.length xs.length hi - HT.sIx xs.length 0 lo)

def isInts : List D → Option (List Int)
  | [] => some []
  | .int i :: xs => (isInts xs).map (i :: ·)
  | _ :: _ => none
def isBools : List D → Option (List Bool)
  | [] => some []
  | .bool b :: xs => (isBools xs).map (b :: ·)
  | _ :: _ => none

/-- the unlike ints of a list, ascending -/
def isort (xs : List Int) : List Int := xs.mergeSort (fun a b => decide (a ≤ b))
def uniq : List Int → List Int
  | [] => []
  | x :: r => match uniq r with
    | [] => [x]
    | y :: t => if x = y then y :: t else x :: y :: t
def sset (xs : List Int) : List Int := uniq (isort xs)

def bigB (i : Int) : Bool := decide (-(2 ^ 64) < i) && decide (i < 2 ^ 64)
def maxI : List Int → Option Int
  | [] => none
  | x :: xs => some (xs.foldl (fun m y => if y > m then y else m) x)
def minI : List Int → Option Int
  | [] => none
  | x :: xs => some (xs.foldl (fun m y => if y < m then y else m) x)

def dep2 (a b : D) : Bool := decide (min a.depth b.depth ≤ 60)
def depI (xs : List D) (b : D) : Bool := decide (min (PyData.depthAll xs) b.depth ≤ 60)
def eqD (a b : D) : Bool := PyData.eqv a b

/-- the first place of an equal thing -/
def idxD (xs : List D) (y : D) : Option Nat := if true ∈ xs.map (fun z => eqD z y) then some ((xs.map fun z => eqD z y).idxOf true) else none
/-- sorted of data -/
def dsort (xs : List D) : List D := xs.mergeSort (PySem.W.dataLe false id)
def alikeB (xs : List D) : Bool := xs.all fun x => xs.all fun y => PySem.W.alike x y
def isTupC : D → Bool
  | .tuple (_ :: _) => true
  | _ => false
def notNT : D → Bool
  | .none => false
  | .tuple _ => false
  | _ => true
def sortB (xs : List D) : Bool := alikeB xs && (xs.all isTupC || xs.all notNT) && xs.all fun x => decide (x.depth ≤ 60)

def opCmp (f : Int → Int → Bool) (a b : O) : Option O :=
  match asInt a, asInt b with
  | some i, some j => some (oBl (f i j))
  | _, _ => none

def opAdd (a b : O) : Option O :=
  match asInt a, asInt b with
  | some i, some j => some (oInt (i + j))
  | _, _ =>
  match asList a, asList b with
  | some xs, some ys => guardB (decide (xs.length + ys.length ≤ sizeLine)) (some (mkL (xs ++ ys)))
  | _, _ =>
  match asTup a, asTup b with
  | some xs, some ys => guardB (decide (xs.length + ys.length ≤ sizeLine)) (some (.d (.tuple (xs ++ ys))))
  | _, _ => none

def opMul (a b : O) : Option O :=
  match asInt a, asInt b with
  | some i, some j => guardB (bigB i || bigB j) (some (oInt (i * j)))
  | _, _ =>
  match asList a, asInt b with
  | some xs, some k => guardB (decide (-(2 ^ 63) ≤ k) && decide (k < 2 ^ 63) && decide (xs.length * k.toNat ≤ sizeLine)) (some (mkL (List.replicate k.toNat xs).flatten))
  | _, _ => none

def isNo : O → Bool
  | .d .none => true
  | _ => false
def op2f : Op2 → O → O → Option O
  | .add, a, b => opAdd a b
  | .sub, a, b => match asInt a, asInt b with
    | some i, some j => some (oInt (i - j))
    | _, _ => none
  | .mul, a, b => opMul a b
  | .fdiv, a, b => match asInt a, asInt b with
    | some i, some j => guardB (decide (j ≠ 0) && decide (j.natAbs < 1073741824)) (some (oInt (i.fdiv j)))
    | _, _ => none
  | .mod, a, b => match asInt a, asInt b with
    | some i, some j => guardB (decide (j ≠ 0)) (some (oInt (i.fmod j)))
    | _, _ => none
  | .pow, a, b => match asInt a, asInt b with
    | some i, some j => guardB (decide (0 ≤ j) && decide (j ≤ 1000000) && decide (i.natAbs < 2 ^ 64)) (some (oInt (i ^ j.toNat)))
    | _, _ => none
  | .lt, a, b => opCmp (fun i j => decide (i < j)) a b
  | .le, a, b => opCmp (fun i j => decide (i ≤ j)) a b
  | .gt, a, b => opCmp (fun i j => decide (j < i)) a b
  | .ge, a, b => opCmp (fun i j => decide (j ≤ i)) a b
  | .eq, a, b => guardB (dep2 a.toD b.toD) (some (oBl (eqD a.toD b.toD)))
  | .ne, a, b => guardB (dep2 a.toD b.toD) (some (oBl (!eqD a.toD b.toD)))
  | .isin, a, b => match asSeq b with
    | some xs => guardB (depI xs a.toD) (some (oBl (xs.any fun z => eqD z a.toD)))
    | none => none
  | .notin, a, b => match asSeq b with
    | some xs => guardB (depI xs a.toD) (some (oBl (!xs.any fun z => eqD z a.toD)))
    | none => none
  | .isN, a, b => match b with
    | .d .none => some (oBl (isNo a))
    | _ => none
  | .notN, a, b => match b with
    | .d .none => some (oBl (!isNo a))
    | _ => none
  | .ix, a, b => match asSeq a, asInt b with
    | some xs, some i => (atI xs i).map .d
    | _, _ => none

/-- x.index(y) -/
def idxf (tup : Bool) (a b : O) : Option O :=
  match (if tup = true then asTup a else asList a) with
  | some xs => guardB (depI xs b.toD) ((idxD xs b.toD).map fun k => oInt (k : Nat))
  | none => none
def isKind (tup : Bool) (a : O) : Bool := (if tup = true then asTup a else asList a).isSome

def op1f : Op1 → O → Option O
  | .neg, a => match asInt a with
    | some i => some (oInt (-i))
    | none => none

/-- every second thing -/
def evens {α : Type} : List α → List α
  | [] => []
  | [x] => [x]
  | x :: _ :: r => x :: evens r
def fnf : Fn → List O → Option O
  | .len, [a] => match asSeq a with
    | some xs => some (oInt xs.length)
    | none => match asStr a with
      | some s => guardB (decide (s.length ≤ sizeLine)) (some (oInt s.length))
      | none => none
  | .abs, [a] => match asInt a with
    | some i => some (oInt (if i < 0 then -i else i))
    | none => none
  | .int, [a] => match a with
    | .d (.int i) => some (oInt i)
    | .d (.bool b) => some (oInt (if b then 1 else 0))
    | _ => none
  | .list, [a] => match asSeq a with
    | some xs => some (mkL xs)
    | none => none
  | .tuple, [a] => match asList a with
    | some xs => some (.d (.tuple xs))
    | none => match asTup a with
      | some xs => some (.d (.tuple xs))
      | none => none
  | .sorted, [a] => match asList a with
    | some xs => guardB (sortB xs) (some (mkL (dsort xs)))
    | none => none
  | .sset, [a] => match asSeq a with
    | some xs => match isInts xs with
      | some ns => guardB (decide (ns.length + 1 < 4096) && decide ((sset ns).length < 64)) (some (mkL ((sset ns).map .int)))
      | none => none
    | none => none
  | .sum, [a] => match asList a with
    | some xs => match isInts xs with
      | some ns => some (oInt ns.sum)
      | none => none
    | none => none
  | .max, [a] => match asList a with
    | some xs => match isInts xs with
      | some ns => (maxI ns).map oInt
      | none => none
    | none => none
  | .min, [a] => match asList a with
    | some xs => match isInts xs with
      | some ns => (minI ns).map oInt
      | none => none
    | none => none
  | .all, [a] => match asList a with
    | some xs => match isBools xs with
      | some bs => some (oBl (bs.all id))
      | none => none
    | none => none
  | .any, [a] => match asList a with
    | some xs => match isBools xs with
      | some bs => some (oBl (bs.any id))
      | none => none
    | none => none
  | .max0, [a] => match asList a with
    | some xs => match isInts xs with
      | some ns => some (oInt ((maxI ns).getD 0))
      | none => none
    | none => none
  | .revT, [a] => match asTup a with
    | some xs => some (.d (.tuple xs.reverse))
    | none => none
  | .evn, [a] => match asTup a with
    | some xs => some (.d (.tuple (evens xs)))
    | none => none
  | .max2, [a, b] => match asInt a, asInt b with
    | some i, some j => some (oInt (if j > i then j else i))
    | _, _ => none
  | .min2, [a, b] => match asInt a, asInt b with
    | some i, some j => some (oInt (if j < i then j else i))
    | _, _ => none
  | _, _ => none

def tyOf : D → Option Ty
  | .int _ => some .int
  | .bool _ => some .bool
  | .str _ => some .str
  | .list _ => some .list
  | .tuple _ => some .tuple
  | .none => some .none
  | .dict _ => none
/-- isinstance -/
def isiT (t : Ty) (ts : List Ty) : Bool := ts.any fun u => decide (u = t) || (decide (u = .int) && decide (t = .bool))

def slcf (a : O) (lo hi : Option Int) : Option O :=
  match asList a with
  | some xs => some (mkL (cutD xs lo hi))
  | none => match asTup a with
    | some xs => some (.d (.tuple (cutD xs lo hi)))
    | none => none
def revf (a : O) : Option O :=
  match asList a with
  | some xs => some (mkL xs.reverse)
  | none => none
def smallI (i : Int) : Bool := decide (-(2 ^ 62) ≤ i) && decide (i < 2 ^ 62)
def rngV (a b : Int) : List D := (List.range (b - a).toNat).map fun k => .int (a + (k : Nat))

/-- zip of two lists, of two tuples -/
def zipf (a b : D) : Option (List (D × D)) :=
  match a, b with
  | .list xs, .list ys => some (xs.zip ys)
  | .tuple xs, .tuple ys => some (xs.zip ys)
  | _, _ => none
def truO : O → Option Bool
  | .d (.bool b) => some b
  | .d (.int i) => some (!decide (i = 0))
  | .d .none => some false
  | o => match asSeq o with
    | some xs => some (!xs.isEmpty)
    | none => none

/-! ### equality of what is held (for watching) -/
mutual
def sameD : D → D → Bool
  | .none, .none => true
  | .bool a, .bool b => a == b
  | .int a, .int b => a == b
  | .str a, .str b => decide (a = b)
  | .list a, .list b => sameDs a b
  | .tuple a, .tuple b => sameDs a b
  | .dict a, .dict b => false
  | _, _ => false
def sameDs : List D → List D → Bool
  | [], [] => true
  | a :: as, b :: bs => sameD a b && sameDs as bs
  | _, _ => false
end

/-! ### operands -/
inductive Opnd where
  | val (x : D)
  | slot (i : Nat)

def look (env : Env) (i : Nat) : Option O := (env[i]?).join
def res (env : Env) : Opnd → Option O
  | .val x => some (.d x)
  | .slot i => look env i
def ress (env : Env) : List Opnd → Option (List O)
  | [] => some []
  | p :: ps => match res env p, ress env ps with
    | some o, some os => some (o :: os)
    | _, _ => none

abbrev M (α : Type) := Env → Option (α × Env)

def wipe (env : Env) : List Nat → Env
  | [] => env
  | v :: vs => (wipe env vs).set v none
/-- the slots at vs as they were in old -/
def back (old env : Env) : List Nat → Env
  | [] => env
  | v :: vs => (back old env vs).set v (old[v]?).join

def isOwn : O → Bool
  | .lst _ => true
  | _ => false
/-- a list that is walked is as it was -/
def watch (w : Option (Nat × List D)) (env : Env) : Bool :=
  match w with
  | none => true
  | some (i, xs) => match look env i with
    | some (.lst os) => match datas os with
      | some ys => sameDs ys xs
      | none => false
    | _ => false

/-- what a walk yields: a thing, or the things of a pair that was made for it -/
inductive Item where
  | one (x : D)
  | row (xs : List D)
/-- several slots set, from the left -/
def stAll : List Nat → List O → Env → Env
  | i :: is, o :: os, env => stAll is os (env.set i (some o))
  | _, _, env => env
def stTg (tg : Tg) (x : Item) (env : Env) : Option Env :=
  match tg, x with
  | .name i, .one x => some (env.set i (some (.d x)))
  | .tup is, .one (.tuple xs) => if is.length = xs.length then some (stAll is (xs.map .d) env) else none
  | .tup is, .row xs => if is.length = xs.length then some (stAll is (xs.map .d) env) else none
  | _, _ => none

def loopL {α : Type} (w : Option (Nat × List D)) (f : Item → M (List α)) : List Item → M (List α)
  | [], env => guardB (watch w env) (some ([], env))
  | x :: xs, env => guardB (watch w env) (match f x env with
    | some (ys, env1) => match loopL w f xs env1 with
      | some (zs, env2) => some (ys ++ zs, env2)
      | none => none
    | none => none)

/-- the lent slots as the callee left them -/
def giveBack : List Opnd → List O → List (Option O) → Env → Env
  | .slot i :: ps, o :: os, f :: fs, env => giveBack ps os fs (if isOwn o = true then env.set i f else env)
  | _ :: ps, _ :: os, _ :: fs, env => giveBack ps os fs env
  | _, _, _, env => env
def lentOf : List Opnd → List O → List Nat
  | .slot i :: ps, o :: os => if isOwn o = true then i :: lentOf ps os else lentOf ps os
  | _ :: ps, _ :: os => lentOf ps os
  | _, _ => []
def nodupB : List Nat → Bool
  | [] => true
  | x :: xs => !xs.contains x && nodupB xs

abbrev CallT := Nat → List O → Option (O × List (Option O))

def doCall (C : CallT) (f : Nat) (ps : List Opnd) (env : Env) : Option (O × Env) :=
  match ress env ps with
  | some os => guardB (nodupB (lentOf ps os)) (match C f os with
    | some (o, fin) => guardB (fin.length == os.length) (some (o, giveBack ps os fin env))
    | none => none)
  | none => none

/-- an expression's meanings: its value, as an operand, as a test -/
structure S3 where
  v : M O
  p : M Opnd
  t : M Bool
def toP (v : M O) : M Opnd := fun env => match v env with
  | some (o, env1) => some (.val o.toD, env1)
  | none => none
def toT (v : M O) : M Bool := fun env => match v env with
  | some (o, env1) => match truO o with
    | some b => some (b, env1)
    | none => none
  | none => none
def S3.of (v : M O) : S3 := ⟨v, toP v, toT v⟩

def vVar (i : Nat) : M O := fun env => match look env i with
  | some (.lst os) => some (.d (O.toD (.lst os)), env.set i (some (.d (O.toD (.lst os)))))
  | some o => some (o, env)
  | none => none
def pVar (i : Nat) : M Opnd := fun env => match look env i with
  | some (.lst os) => if (datas os).isSome = true then some (.slot i, env) else some (.val (O.toD (.lst os)), env.set i (some (.d (O.toD (.lst os)))))
  | some _ => some (.slot i, env)
  | none => none
def vOp2 (o : Op2) (a b : M Opnd) : M O := fun env => match a env with
  | some (p, env1) => match b env1 with
    | some (q, env2) => match res env2 p, res env2 q with
      | some x, some y => (op2f o x y).map (·, env2)
      | _, _ => none
    | none => none
  | none => none
def vOp1 (f : O → Option O) (a : M Opnd) : M O := fun env => match a env with
  | some (p, env1) => match res env1 p with
    | some x => (f x).map (·, env1)
    | none => none
  | none => none
def vFn (f : List O → Option O) (es : M (List Opnd)) : M O := fun env => match es env with
  | some (ps, env1) => match ress env1 ps with
    | some os => (f os).map (·, env1)
    | none => none
  | none => none
def vChain (o o' : Op2) (a b c : M Opnd) : M O := fun env => match a env with
  | some (p, env1) => match b env1 with
    | some (q, env2) => match res env2 p, res env2 q with
      | some x, some y => match op2f o x y with
        | some (.d (.bool true)) => match c env2 with
          | some (r, env3) => match res env3 q, res env3 r with
            | some y', some z => (op2f o' y' z).map (·, env3)
            | _, _ => none
          | none => none
        | some (.d (.bool false)) => some (.d (.bool false), env2)
        | _ => none
      | _, _ => none
    | none => none
  | none => none
def vAnd (a b : M O) : M O := fun env => match a env with
  | some (x, env1) => match truO x with
    | some true => b env1
    | some false => some (x, env1)
    | none => none
  | none => none
def vOr (a b : M O) : M O := fun env => match a env with
  | some (x, env1) => match truO x with
    | some true => some (x, env1)
    | some false => b env1
    | none => none
  | none => none
def vNot (a : M O) : M O := fun env => match a env with
  | some (o, env1) => match truO o with
    | some b => some (.d (.bool (!b)), env1)
    | none => none
  | none => none
def tAndM (a b : M Bool) : M Bool := fun env => match a env with
  | some (true, env1) => b env1
  | some (false, env1) => some (false, env1)
  | none => none
def tOrM (a b : M Bool) : M Bool := fun env => match a env with
  | some (true, env1) => some (true, env1)
  | some (false, env1) => b env1
  | none => none
def tNotM (a : M Bool) : M Bool := fun env => match a env with
  | some (b, env1) => some (!b, env1)
  | none => none
def vIte (c : M Bool) (a b : M O) : M O := fun env => match c env with
  | some (true, env1) => a env1
  | some (false, env1) => b env1
  | none => none
def tIteM (c a b : M Bool) : M Bool := fun env => match c env with
  | some (true, env1) => a env1
  | some (false, env1) => b env1
  | none => none
def vTup (es : M (List D)) : M O := fun env => match es env with
  | some (ds, env1) => guardB (decide (ds.length ≤ sizeLine)) (some (.d (.tuple ds), env1))
  | none => none
def vLst (es : M (List O)) : M O := fun env => match es env with
  | some (os, env1) => guardB (decide (os.length ≤ sizeLine)) (some (.lst os, env1))
  | none => none
def vSlc (a : M Opnd) (lo hi : M (Option Int)) : M O := fun env => match a env with
  | some (p, env1) => match lo env1 with
    | some (l, env2) => match hi env2 with
      | some (h, env3) => match res env3 p with
        | some x => (slcf x l h).map (·, env3)
        | none => none
      | none => none
    | none => none
  | none => none
def lrngf (a b : Int) : Option O := guardB (smallI a && smallI b && decide ((b - a).toNat ≤ 16777216)) (some (mkL (rngV a b)))
def vLrng1 (a : M Opnd) : M O := vOp1 (fun x => match asInt x with
  | some j => lrngf 0 j
  | none => none) a
def vLrng2 (a b : M Opnd) : M O := fun env => match a env with
  | some (p, env1) => match b env1 with
    | some (q, env2) => match res env2 p, res env2 q with
      | some x, some y => match asInt x, asInt y with
        | some i, some j => (lrngf i j).map (·, env2)
        | _, _ => none
      | _, _ => none
    | none => none
  | none => none
def vCall (C : CallT) (f : Nat) (es : M (List Opnd)) : M O := fun env => match es env with
  | some (ps, env1) => doCall C f ps env1
  | none => none
def vIdx (tup : Bool) (a b : M Opnd) : M O := fun env => match a env with
  | some (p, env1) => match res env1 p with
    | some x0 => guardB (isKind tup x0) (match b env1 with
      | some (q, env2) => match res env2 p, res env2 q with
        | some x, some y => (idxf tup x y).map (·, env2)
        | _, _ => none
      | none => none)
    | none => none
  | none => none
def isif (ts : List Ty) (x : O) : Option O := match tyOf x.toD with
  | some t => guardB (decide (ts.length ≤ 100)) (some (.d (.bool (isiT t ts))))
  | none => none
abbrev Items := List Item × Option (Nat × List D)
def tgSub : Tg → List Nat → Bool
  | .name i, vs => vs.contains i
  | .tup is, vs => is.all vs.contains
/-- one turn of a comprehension -/
def turn1 (tg : Tg) (cond : M Bool) (elt : M O) (vs : List Nat) : Item → M (List O) := fun x e => guardB (tgSub tg vs) (match stTg tg x e with
  | some e1 => match cond e1 with
    | some (true, e2) => match elt e2 with
      | some (o, e3) => some ([o], wipe e3 vs)
      | none => none
    | some (false, e2) => some ([], wipe e2 vs)
    | none => none
  | none => none)
def turn2 (tg : Tg) (cond : M Bool) (src : M Items) (inner : Item → M (List O)) (vs vs1 : List Nat) : Item → M (List O) := fun x e => guardB (tgSub tg vs && vs1.all vs.contains) (match stTg tg x e with
  | some e1 => match cond e1 with
    | some (true, e2) => match src e2 with
      | some ((items, w), e3) => match loopL w inner items (wipe e3 vs1) with
        | some (ys, e4) => some (ys, wipe e4 vs)
        | none => none
      | none => none
    | some (false, e2) => some ([], wipe e2 vs)
    | none => none
  | none => none)
def vComp (src : M Items) (turn : Item → M (List O)) (vs : List Nat) : M O := fun env => match src env with
  | some ((items, w), env1) => match loopL w turn items (wipe env1 vs) with
    | some (os, env2) => guardB (decide (os.length ≤ sizeLine)) (some (.lst os, back env1 env2 vs))
    | none => none
  | none => none
/-- sources -/
def sVar (i : Nat) : M Items := fun env => match look env i with
  | some (.lst os) => match datas os with
    | some xs => some ((xs.map .one, some (i, xs)), env)
    | none => some (((O.toDs os).map .one, none), env.set i (some (.d (.list (O.toDs os)))))
  | some o => (asSeq o).map fun xs => ((xs.map .one, none), env)
  | none => none
def sSeq (e : M O) : M Items := fun env => match e env with
  | some (o, env1) => (asSeq (.d o.toD)).map fun xs => ((xs.map .one, none), env1)
  | none => none
def sRng1 (a : M O) : M Items := fun env => match a env with
  | some (.d (.int j), env1) => guardB (smallI j) (some (((rngV 0 j).map .one, none), env1))
  | _ => none
def sRng2 (a b : M O) : M Items := fun env => match a env with
  | some (.d (.int i), env1) => match b env1 with
    | some (.d (.int j), env2) => guardB (smallI i && smallI j) (some (((rngV i j).map .one, none), env2))
    | _ => none
  | _ => none
def rngDn (i j : Int) : List D := (List.range (i - j).toNat).map fun n => .int (i - (n : Nat))
def sRng3 (a b c : M O) : M Items := fun env => match a env with
  | some (.d (.int i), env1) => match b env1 with
    | some (.d (.int j), env2) => match c env2 with
      | some (.d (.int k), env3) => guardB (smallI i && smallI j && decide (k = -1)) (some (((rngDn i j).map .one, none), env3))
      | _ => none
    | _ => none
  | _ => none
def enumR (xs : List D) : List Item := xs.zipIdx.map fun p => .row [.int (p.2 : Nat), p.1]
def sEnum (e : M O) : M Items := fun env => match e env with
  | some (o, env1) => (asSeq (.d o.toD)).map fun xs => ((enumR xs, none), env1)
  | none => none
def zipR (ps : List (D × D)) : List Item := ps.map fun p => .row [p.1, p.2]
def sZip (a b : M O) : M Items := fun env => match a env with
  | some (o, env1) => match b env1 with
    | some (o', env2) => (zipf o.toD o'.toD).map fun ps => ((zipR ps, none), env2)
    | none => none
  | none => none

def mNil {α : Type} : M (List α) := fun env => some ([], env)
def mCons {α : Type} (a : M α) (as : M (List α)) : M (List α) := fun env => match a env with
  | some (x, env1) => match as env1 with
    | some (xs, env2) => some (x :: xs, env2)
    | none => none
  | none => none
def toD1 (v : M O) : M D := fun env => match v env with
  | some (o, env1) => some (o.toD, env1)
  | none => none
def iNone : M (Option Int) := fun env => some (none, env)
def iSome (v : M O) : M (Option Int) := fun env => match v env with
  | some (.d (.int i), env1) => some (some i, env1)
  | _ => none
def tTrue : M Bool := fun env => some (true, env)

mutual
def sem (C : CallT) : IE → S3
  | .var i => ⟨vVar i, pVar i, toT (vVar i)⟩
  | .cint k => S3.of fun env => some (.d (.int k), env)
  | .cbl b => S3.of fun env => some (.d (.bool b), env)
  | .cnon => S3.of fun env => some (.d .none, env)
  | .cstr s => S3.of fun env => some (.d (.str s), env)
  | .op2 o a b => S3.of (vOp2 o (sem C a).p (sem C b).p)
  | .op1 o a => S3.of (vOp1 (op1f o) (sem C a).p)
  | .fn f es => S3.of (vFn (fnf f) (semPs C es))
  | .chain o o' a b c => S3.of (vChain o o' (sem C a).p (sem C b).p (sem C c).p)
  | .and a b => ⟨vAnd (sem C a).v (sem C b).v, toP (vAnd (sem C a).v (sem C b).v), tAndM (sem C a).t (sem C b).t⟩
  | .or a b => ⟨vOr (sem C a).v (sem C b).v, toP (vOr (sem C a).v (sem C b).v), tOrM (sem C a).t (sem C b).t⟩
  | .not a => ⟨vNot (sem C a).v, toP (vNot (sem C a).v), tNotM (sem C a).t⟩
  | .ite c a b => ⟨vIte (sem C c).t (sem C a).v (sem C b).v, toP (vIte (sem C c).t (sem C a).v (sem C b).v), tIteM (sem C c).t (sem C a).t (sem C b).t⟩
  | .tup es => S3.of (vTup (semDs C es))
  | .lst es => S3.of (vLst (semVs C es))
  | .slc a lo hi => S3.of (vSlc (sem C a).p (semI C lo) (semI C hi))
  | .rev a => S3.of (vOp1 revf (sem C a).p)
  | .lrng1 a => S3.of (vLrng1 (sem C a).p)
  | .lrng2 a b => S3.of (vLrng2 (sem C a).p (sem C b).p)
  | .call f es => S3.of (vCall C f (semPs C es))
  | .idx tup a b => S3.of (vIdx tup (sem C a).p (sem C b).p)
  | .isi a t => S3.of (vOp1 (isif [t]) (sem C a).p)
  | .isiT a ts => S3.of (vOp1 (isif ts) (sem C a).p)
  | .comp elt tg src cond vs => S3.of (vComp (semS C src) (turn1 tg (semC C cond) (sem C elt).v vs) vs)
  | .comp2 elt tg src cond tg1 src1 cond1 vs vs1 => S3.of (vComp (semS C src) (turn2 tg (semC C cond) (semS C src1) (turn1 tg1 (semC C cond1) (sem C elt).v vs1) vs vs1) vs)
def semPs (C : CallT) : List IE → M (List Opnd)
  | [] => mNil
  | e :: es => mCons (sem C e).p (semPs C es)
def semVs (C : CallT) : List IE → M (List O)
  | [] => mNil
  | e :: es => mCons (sem C e).v (semVs C es)
def semDs (C : CallT) : List IE → M (List D)
  | [] => mNil
  | e :: es => mCons (toD1 (sem C e).v) (semDs C es)
def semI (C : CallT) : Option IE → M (Option Int)
  | none => iNone
  | some e => iSome (sem C e).v
def semC (C : CallT) : Option IE → M Bool
  | none => tTrue
  | some e => (sem C e).t
def semS (C : CallT) : Src → M Items
  | .seq e => match e with
    | .var i => sVar i
    | e => sSeq (sem C e).v
  | .rng1 a => sRng1 (sem C a).v
  | .rng2 a b => sRng2 (sem C a).v (sem C b).v
  | .rng3 a b c => sRng3 (sem C a).v (sem C b).v (sem C c).v
  | .enum e => sEnum (sem C e).v
  | .zip a b => sZip (sem C a).v (sem C b).v
end
abbrev ev (C : CallT) (e : IE) : M O := (sem C e).v
abbrev evT (C : CallT) (e : IE) : M Bool := (sem C e).t

inductive Out where
  | nx (env : Env) | rt (o : O) (env : Env) | bk (env : Env) | ct (env : Env)

def forL (f : Item → Env → Option Out) : List Item → Env → Option Out
  | [], env => some (.nx env)
  | x :: xs, env => match f x env with
    | some (.nx env1) => forL f xs env1
    | some (.ct env1) => forL f xs env1
    | some (.bk env1) => some (.nx env1)
    | some (.rt o env1) => some (.rt o env1)
    | none => none
def whileL (t : Env → Option (Bool × Env)) (f : Env → Option Out) : Nat → Env → Option Out
  | 0, _ => none
  | n + 1, env => match t env with
    | some (true, env1) => match f env1 with
      | some (.nx env2) => whileL t f n env2
      | some (.ct env2) => whileL t f n env2
      | some (.bk env2) => some (.nx env2)
      | some (.rt o env2) => some (.rt o env2)
      | none => none
    | some (false, env1) => some (.nx env1)
    | none => none

/-- a slot may be stored to: it is not one that was lent -/
def mayB (bor : List Bool) (i : Nat) : Bool := !(bor.getD i false)
def tgMay (bor : List Bool) : Tg → Bool
  | .name i => mayB bor i
  | .tup is => is.all (mayB bor)

/-- items of a source for a for statement: a walked list is frozen -/
def evSrcF (C : CallT) : Src → M Items
  | .seq e, env => sSeq (sem C e).v env
  | s, env => semS C s env

def whileMost : Nat := 1000000

mutual
def ex (C : CallT) (bor : List Bool) : IS → Env → Option Out
  | .asg i e, env => guardB (mayB bor i) (match ev C e env with
    | some (o, env1) => some (.nx (env1.set i (some o)))
    | none => none)
  | .pars _ is es, env => guardB (is.all (mayB bor) && nodupB is && is.length == es.length && decide (is.length ≤ 1000)) (match semVs C es env with
    | some (os, env1) => some (.nx (stAll is os env1))
    | none => none)
  | .unp is e, env => guardB (is.all (mayB bor)) (match ev C e env with
    | some (o, env1) => match asTup (.d o.toD) with
      | some xs => if is.length = xs.length then some (.nx (stAll is (xs.map .d) env1)) else none
      | none => none
    | none => none)
  | .ifs c a b, env => match evT C c env with
    | some (true, env1) => exs C bor a env1
    | some (false, env1) => exs C bor b env1
    | none => none
  | .fors tg src body, env => guardB (tgMay bor tg) (match evSrcF C src env with
    | some ((items, none), env1) => forL (fun x e => match stTg tg x e with
      | some e1 => exs C bor body e1
      | none => none) items env1
    | _ => none)
  | .whl c body, env => whileL (evT C c) (exs C bor body) whileMost env
  | .ret (.var i), env => match look env i with
    | some (.lst os) => if mayB bor i = true then some (.rt (.lst os) (env.set i none)) else some (.rt (.d (O.toD (.lst os))) (env.set i (some (.d (O.toD (.lst os))))))
    | some o => some (.rt o env)
    | none => none
  | .ret e, env => match ev C e env with
    | some (o, env1) => some (.rt o env1)
    | none => none
  | .retN, env => some (.rt (.d .none) env)
  | .app i e, env => match look env i with
    | some (.lst _) => match ev C e env with
      | some (o, env1) => match look env1 i with
        | some (.lst os) => guardB (decide (os.length < sizeLine)) (some (.nx (env1.set i (some (.lst (os ++ [o]))))))
        | _ => none
      | none => none
    | _ => none
  | .appix i k j, env => match look env i with
    | some _ => match ev C k env with
      | some (.d (.int z), env1) => match look env1 i, look env1 j with
        | some (.lst os), some (.d x) => match ixN os.length z with
          | some p => match os[p]? with
            | some (.lst qs) => guardB (decide (qs.length < sizeLine)) (some (.nx (env1.set i (some (.lst (os.set p (.lst (qs ++ [.d x]))))))))
            | _ => none
          | none => none
        | _, _ => none
      | _ => none
    | none => none
  | .setix i k e, env => match ev C e env with
    | some (o, env1) => match look env1 i with
      | some (.lst _) => match ev C k env1 with
        | some (.d (.int z), env2) => match look env2 i with
          | some (.lst os) => match ixN os.length z with
            | some j => some (.nx (env2.set i (some (.lst (os.set j o)))))
            | none => none
          | _ => none
        | _ => none
      | _ => none
    | none => none
  | .expr e, env => match ev C e env with
    | some (_, env1) => some (.nx env1)
    | none => none
  | .brk, env => some (.bk env)
  | .cnt, env => some (.ct env)
  | .pass, env => some (.nx env)
  | .never, _ => none
def exs (C : CallT) (bor : List Bool) : List IS → Env → Option Out
  | [], env => some (.nx env)
  | s :: ss, env => match ex C bor s env with
    | some (.nx env1) => exs C bor ss env1
    | some o => some o
    | none => none
end

structure FnRec where
  np : Nat
  nl : Nat
  body : List IS

def finOk (n : Nat) : Option Out → Option (O × List (Option O))
  | some (.rt o env) => some (o, env.take n)
  | some (.nx env) => some (.d .none, env.take n)
  | _ => none

def callF (T : List FnRec) : Nat → CallT
  | 0, _, _ => none
  | n + 1, f, os => match T[f]? with
    | some r => guardB (os.length == r.np && decide (r.np ≤ r.nl)) (finOk r.np (exs (callF T n) (os.map isOwn) r.body (os.map some ++ List.replicate (r.nl - r.np) none)))
    | none => none

end PD
end

section
set_option Elab.async false
set_option linter.all false
set_option maxRecDepth 100000
/-! PD: how evaluator states lie in abstract heaps. -/
namespace PD
open PySem L2

/-- a tuple whose object is known to have no dict of its own -/
def TupF (K : PySem.W.Frag) (H : Hp) (a : Addr) (xs : List V) : Prop :=
  (∃ o : Obj, H a = some (.frz o (.tup xs)) ∧ o.cls = .type "tuple" ∧ o.dict = none) ∨
    ∃ (o : Obj) (its : Array Value) (n : Nat), K.lookup a = some o ∧ o.cls = .type "tuple" ∧ o.dict = none ∧ o.data = .seq its n ∧ its.size ≤ sizeLine ∧ Vals xs its.toList
theorem TupF.sqT {K : PySem.W.Frag} {H : Hp} {a : Addr} {xs : List V} (h : TupF K H a xs) : SqT K H a xs := by
  rcases h with ⟨o, h, _⟩ | ⟨o, its, n, h1, h2, _, h3, h4, h5⟩
  · exact .inl (.inr ⟨o, h⟩)
  · exact .inr ⟨o, its, n, h1, h2, h3, h4, h5⟩
theorem TupF.mono {K : PySem.W.Frag} {H H' : Hp} (e : Same H H') {a : Addr} {xs : List V} (h : TupF K H a xs) : TupF K H' a xs := by
  rcases h with ⟨o, h, q⟩ | h
  · exact .inl ⟨o, e _ _ h, q⟩
  · exact .inr h

section
variable (K : PySem.W.Frag)
mutual
/-- frozen data at a value -/
def Rep (Fz : Hp) : D → V → Prop
  | .none, v => v = .non
  | .bool b, v => v = .bl b
  | .int i, v => v = .int i
  | .str s, v => v = .str s
  | .list xs, v => ∃ a vs, v = .ref a ∧ SqL K Fz a vs ∧ Reps Fz xs vs
  | .tuple xs, v => ∃ a vs, v = .ref a ∧ TupF K Fz a vs ∧ Reps Fz xs vs
  | .dict _, _ => False
def Reps (Fz : Hp) : List D → List V → Prop
  | [], vs => vs = []
  | d :: ds, vs => ∃ v r, vs = v :: r ∧ Rep Fz d v ∧ Reps Fz ds r
end
mutual
/-- what a slot holds, its own objects' addresses -/
def RepO (Fz H : Hp) : O → V → List Addr → Prop
  | .d x, v, A => A = [] ∧ Rep K Fz x v
  | .lst os, v, A => ∃ a vs B, v = .ref a ∧ H a = some (.lst vs) ∧ A = a :: B ∧ RepOs Fz H os vs B
def RepOs (Fz H : Hp) : List O → List V → List Addr → Prop
  | [], vs, A => vs = [] ∧ A = []
  | o :: os, vs, A => ∃ v r B C, vs = v :: r ∧ A = B ++ C ∧ RepO Fz H o v B ∧ RepOs Fz H os r C
end
end

/-! ### extension -/
theorem Same.rd {H H' : Hp} (e : Same H H') {a : Addr} {u : HO} (h : Rd H a u) : Rd H' a u := by
  rcases h with h | ⟨o, h⟩
  · exact .inl (e _ _ h)
  · exact .inr ⟨o, e _ _ h⟩
theorem Same.sqL {K : PySem.W.Frag} {H H' : Hp} (e : Same H H') {a : Addr} {xs : List V} (h : SqL K H a xs) : SqL K H' a xs := by
  rcases h with h | h
  · exact .inl (Same.rd e h)
  · exact .inr h
theorem Same.sqT {K : PySem.W.Frag} {H H' : Hp} (e : Same H H') {a : Addr} {xs : List V} (h : SqT K H a xs) : SqT K H' a xs := by
  rcases h with h | h
  · exact .inl (Same.rd e h)
  · exact .inr h

section
variable {K : PySem.W.Frag} {Fz Fz' H H' : Hp}
mutual
theorem Rep.mono (e : Same Fz Fz') : ∀ (d : D) (v : V), Rep K Fz d v → Rep K Fz' d v
  | .none, v, h => by unfold Rep at h ⊢; exact h
  | .bool b, v, h => by unfold Rep at h ⊢; exact h
  | .int i, v, h => by unfold Rep at h ⊢; exact h
  | .str s, v, h => by unfold Rep at h ⊢; exact h
  | .list xs, v, h => by
    unfold Rep at h ⊢
    obtain ⟨a, vs, e1, h1, h2⟩ := h
    exact ⟨a, vs, e1, Same.sqL e h1, Reps.mono e xs vs h2⟩
  | .tuple xs, v, h => by
    unfold Rep at h ⊢
    obtain ⟨a, vs, e1, h1, h2⟩ := h
    exact ⟨a, vs, e1, h1.mono e, Reps.mono e xs vs h2⟩
  | .dict _, v, h => by unfold Rep at h; exact h.elim
theorem Reps.mono (e : Same Fz Fz') : ∀ (ds : List D) (vs : List V), Reps K Fz ds vs → Reps K Fz' ds vs
  | [], vs, h => by unfold Reps at h ⊢; exact h
  | d :: ds, vs, h => by
    unfold Reps at h ⊢
    obtain ⟨v, r, e1, h1, h2⟩ := h
    exact ⟨v, r, e1, Rep.mono e d v h1, Reps.mono e ds r h2⟩
end
mutual
/-- what is held stays where its own objects do -/
theorem RepO.frame (e : Same Fz Fz') : ∀ (o : O) (v : V) (A : List Addr), (∀ a ∈ A, ∀ u, H a = some u → H' a = some u) → RepO K Fz H o v A → RepO K Fz' H' o v A
  | .d x, v, A, k, h => by
    unfold RepO at h ⊢
    exact ⟨h.1, h.2.mono e⟩
  | .lst os, v, A, k, h => by
    unfold RepO at h ⊢
    obtain ⟨a, vs, B, e1, h1, eA, h2⟩ := h
    subst eA
    exact ⟨a, vs, B, e1, k a List.mem_cons_self _ h1, rfl, RepOs.frame e os vs B (fun b hb => k b (List.mem_cons_of_mem _ hb)) h2⟩
theorem RepOs.frame (e : Same Fz Fz') : ∀ (os : List O) (vs : List V) (A : List Addr), (∀ a ∈ A, ∀ u, H a = some u → H' a = some u) → RepOs K Fz H os vs A → RepOs K Fz' H' os vs A
  | [], vs, A, k, h => by unfold RepOs at h ⊢; exact h
  | o :: os, vs, A, k, h => by
    unfold RepOs at h ⊢
    obtain ⟨v, r, B, C, e1, eA, h1, h2⟩ := h
    subst eA
    exact ⟨v, r, B, C, e1, rfl, RepO.frame e o v B (fun b hb => k b (List.mem_append_left _ hb)) h1, RepOs.frame e os r C (fun b hb => k b (List.mem_append_right _ hb)) h2⟩
end
mutual
theorem RepO.alive : ∀ (o : O) (v : V) (A : List Addr), RepO K Fz H o v A → ∀ a ∈ A, H a ≠ none
  | .d x, v, A, h, a, ha => by
    unfold RepO at h
    rw [h.1] at ha
    exact absurd ha (List.not_mem_nil)
  | .lst os, v, A, h, a, ha => by
    unfold RepO at h
    obtain ⟨b, vs, B, e1, h1, eA, h2⟩ := h
    subst eA
    rcases List.mem_cons.mp ha with z | z
    · rw [z, h1]; exact fun q => nomatch q
    · exact RepOs.alive os vs B h2 a z
theorem RepOs.alive : ∀ (os : List O) (vs : List V) (A : List Addr), RepOs K Fz H os vs A → ∀ a ∈ A, H a ≠ none
  | [], vs, A, h, a, ha => by
    unfold RepOs at h
    rw [h.2] at ha
    exact absurd ha (List.not_mem_nil)
  | o :: os, vs, A, h, a, ha => by
    unfold RepOs at h
    obtain ⟨v, r, B, C, e1, eA, h1, h2⟩ := h
    subst eA
    rcases List.mem_append.mp ha with z | z
    · exact RepO.alive o v B h1 a z
    · exact RepOs.alive os r C h2 a z
end

/-! ### freezing -/
/-- the objects at A are frozen as they stand in H -/
def frzB (Fz H : Hp) (A : List Addr) : Hp := fun a => if a ∈ A then H a else Fz a
theorem frzB_in {A : List Addr} {a : Addr} (h : a ∈ A) : frzB Fz H A a = H a := by unfold frzB; rw [if_pos h]
theorem frzB_out {A : List Addr} {a : Addr} (h : a ∉ A) : frzB Fz H A a = Fz a := by unfold frzB; rw [if_neg h]
theorem frzB_same {A : List Addr} (sub : Same Fz H) : Same Fz (frzB Fz H A) := fun a u h => by
  by_cases ha : a ∈ A
  · rw [frzB_in ha]; exact sub a u h
  · rw [frzB_out ha]; exact h
theorem frzB_sub {A : List Addr} (sub : Same Fz H) : Same (frzB Fz H A) H := fun a u h => by
  by_cases ha : a ∈ A
  · rw [frzB_in ha] at h; exact h
  · rw [frzB_out ha] at h; exact sub a u h
mutual
/-- over a heap that keeps the frozen and has the own objects, all is data -/
theorem RepO.toD {G : Hp} (e : Same Fz G) : ∀ (o : O) (v : V) (A : List Addr), (∀ a ∈ A, ∀ u, H a = some u → G a = some u) → RepO K Fz H o v A → Rep K G o.toD v
  | .d x, v, A, k, h => by
    unfold RepO at h
    exact h.2.mono e
  | .lst os, v, A, k, h => by
    unfold RepO at h
    obtain ⟨a, vs, B, e1, h1, eA, h2⟩ := h
    subst eA
    show Rep K G (.list (O.toDs os)) v
    unfold Rep
    exact ⟨a, vs, e1, SqL.of (k a List.mem_cons_self _ h1), RepOs.toDs e os vs B (fun b hb => k b (List.mem_cons_of_mem _ hb)) h2⟩
theorem RepOs.toDs {G : Hp} (e : Same Fz G) : ∀ (os : List O) (vs : List V) (A : List Addr), (∀ a ∈ A, ∀ u, H a = some u → G a = some u) → RepOs K Fz H os vs A → Reps K G (O.toDs os) vs
  | [], vs, A, k, h => by
    unfold RepOs at h
    show Reps K G [] vs
    unfold Reps
    exact h.1
  | o :: os, vs, A, k, h => by
    unfold RepOs at h
    obtain ⟨v, r, B, C, e1, eA, h1, h2⟩ := h
    subst eA
    show Reps K G (o.toD :: O.toDs os) vs
    unfold Reps
    exact ⟨v, r, e1, RepO.toD e o v B (fun b hb => k b (List.mem_append_left _ hb)) h1, RepOs.toDs e os r C (fun b hb => k b (List.mem_append_right _ hb)) h2⟩
end
end
end PD
end

section
set_option Elab.async false
set_option linter.all false
set_option maxRecDepth 100000
/-! PD: evaluator states and steps between them. -/
namespace PD
open PySem L2

def Own (F : Nat → List Addr) (a : Addr) : Prop := ∃ i, a ∈ F i

/-- the evaluator's slots env lie at the values σ: Fz what is frozen, H the heap, F each slot's own objects -/
structure Rel (K : PySem.W.Frag) (env : Env) (σ : L2.St) (Fz H : Hp) (F : Nat → List Addr) : Prop where
  sub : Same Fz H
  len : env.length = σ.length
  sl : ∀ i o, look env i = some o → ∃ v, σ[i]? = some (some v) ∧ RepO K Fz H o v (F i)
  no : ∀ i, look env i = none → F i = []
  nd : ∀ i, (F i).Nodup
  dj : ∀ i j a, a ∈ F i → a ∈ F j → i = j
  fz : ∀ i a, a ∈ F i → Fz a = none

/-- from (Fz, H) with the own objects A to (Fz', H') with A' -/
structure Stp (Fz H : Hp) (A : Addr → Prop) (Fz' H' : Hp) (A' : Addr → Prop) : Prop where
  fz : Same Fz Fz'
  hp : ∀ a u, H a = some u → ¬ A a → H' a = some u
  al : ∀ a, H a ≠ none → H' a ≠ none
  nw : ∀ a, A' a → A a ∨ H a = none
  fn : ∀ a, Fz' a ≠ none → Fz a ≠ none ∨ H a = none ∨ A a

theorem Stp.refl {Fz H : Hp} {A : Addr → Prop} : Stp Fz H A Fz H A :=
  ⟨Same.refl _, fun _ _ h _ => h, fun _ h => h, fun _ h => .inl h, fun _ h => .inl h⟩
theorem Stp.trans {Fz H Fz1 H1 Fz2 H2 : Hp} {A A1 A2 : Addr → Prop} (s : Stp Fz H A Fz1 H1 A1) (t : Stp Fz1 H1 A1 Fz2 H2 A2) : Stp Fz H A Fz2 H2 A2 where
  fz := s.fz.trans t.fz
  hp := fun a u h n => t.hp a u (s.hp a u h n) fun h1 => (s.nw a h1).elim n fun z => by rw [z] at h; cases h
  al := fun a h => t.al a (s.al a h)
  nw := fun a h => (t.nw a h).elim (fun z => s.nw a z) fun z => .inr (by
    by_cases q : H a = none
    · exact q
    · exact absurd z (s.al a q))
  fn := fun a h => by
    rcases t.fn a h with z | z | z
    · exact s.fn a z
    · by_cases q : H a = none
      · exact .inr (.inl q)
      · exact absurd z (s.al a q)
    · rcases s.nw a z with q | q
      · exact .inr (.inr q)
      · exact .inr (.inl q)
theorem Stp.mono {Fz H Fz1 H1 : Hp} {A A1 A2 : Addr → Prop} (s : Stp Fz H A Fz1 H1 A1) (h : ∀ a, A2 a → A1 a) : Stp Fz H A Fz1 H1 A2 :=
  ⟨s.fz, s.hp, s.al, fun a z => s.nw a (h a z), s.fn⟩

section
variable {K : PySem.W.Frag} {env env' : Env} {σ : L2.St} {Fz H Fz' H' : Hp} {F F' : Nat → List Addr}

theorem Rel.alive (R : Rel K env σ Fz H F) {a : Addr} (h : Own F a) : H a ≠ none := by
  obtain ⟨i, hi⟩ := h
  cases q : look env i with
  | none => rw [R.no i q] at hi; exact absurd hi List.not_mem_nil
  | some o =>
    obtain ⟨v, _, r⟩ := R.sl i o q
    exact RepO.alive o v _ r a hi
theorem Rel.ofz (R : Rel K env σ Fz H F) {a : Addr} (h : Own F a) : Fz a = none := let ⟨i, hi⟩ := h; R.fz i a hi

/-- what an expression's value is -/
def After (K : PySem.W.Frag) (σ : L2.St) (Fz H : Hp) (F : Nat → List Addr) (env' : Env) (o : O) (v : V) (H' : Hp) : Prop :=
  ∃ Fz' F' B, Rel K env' σ Fz' H' F' ∧ Stp Fz H (Own F) Fz' H' (fun a => Own F' a ∨ a ∈ B) ∧ RepO K Fz' H' o v B ∧ B.Nodup ∧ ∀ b ∈ B, ¬ Own F' b ∧ Fz' b = none
/-- .. as frozen data -/
def AfterD (K : PySem.W.Frag) (σ : L2.St) (Fz H : Hp) (F : Nat → List Addr) (env' : Env) (d : D) (v : V) (H' : Hp) : Prop :=
  ∃ Fz' F', Rel K env' σ Fz' H' F' ∧ Stp Fz H (Own F) Fz' H' (Own F') ∧ Rep K Fz' d v
def RepP (K : PySem.W.Frag) (Fz : Hp) (σ : L2.St) : Opnd → V → Prop
  | .val d, v => Rep K Fz d v
  | .slot i, v => σ[i]? = some (some v)
def AfterP (K : PySem.W.Frag) (σ : L2.St) (Fz H : Hp) (F : Nat → List Addr) (env' : Env) (p : Opnd) (v : V) (H' : Hp) : Prop :=
  ∃ Fz' F', Rel K env' σ Fz' H' F' ∧ Stp Fz H (Own F) Fz' H' (Own F') ∧ RepP K Fz' σ p v
/-- .. of nothing -/
def AfterU (K : PySem.W.Frag) (σ : L2.St) (Fz H : Hp) (F : Nat → List Addr) (env' : Env) (H' : Hp) : Prop :=
  ∃ Fz' F', Rel K env' σ Fz' H' F' ∧ Stp Fz H (Own F) Fz' H' (Own F')

theorem notin_of_none {H : Hp} {B : List Addr} {a : Addr} (h : ∀ b ∈ B, H b = none) (n : H a ≠ none) : a ∉ B := fun z => n (h a z)

/-- the own objects of a value are frozen -/
theorem Rel.freeze {B : List Addr} {o : O} {v : V} (R : Rel K env σ Fz H F) (r : RepO K Fz H o v B) (hb : ∀ b ∈ B, ¬ Own F b ∧ Fz b = none) :
    Rel K env σ (frzB Fz H B) H F ∧ Rep K (frzB Fz H B) o.toD v := by
  refine ⟨⟨frzB_sub R.sub, R.len, fun i x e => ?_, R.no, R.nd, R.dj, fun i a ha => ?_⟩, ?_⟩
  · obtain ⟨w, h1, h2⟩ := R.sl i x e
    exact ⟨w, h1, RepO.frame (frzB_same R.sub) x w _ (fun a _ u h => h) h2⟩
  · rw [frzB_out fun z => (hb a z).1 ⟨i, ha⟩]
    exact R.fz i a ha
  · exact RepO.toD (frzB_same R.sub) o v B (fun a ha u h => by rw [frzB_in ha]; exact h) r
theorem After.frz {o : O} {v : V} (h : After K σ Fz H F env' o v H') : AfterD K σ Fz H F env' o.toD v H' := by
  obtain ⟨Fz1, F1, B, R, S, r, nd, hb⟩ := h
  obtain ⟨R2, r2⟩ := R.freeze r hb
  refine ⟨_, F1, R2, ⟨S.fz.trans (frzB_same R.sub), S.hp, S.al, fun a z => S.nw a (.inl z), fun a z => ?_⟩, r2⟩
  by_cases hq : a ∈ B
  · rcases S.nw a (.inr hq) with q | q
    · exact .inr (.inr q)
    · exact .inr (.inl q)
  · rw [frzB_out hq] at z
    exact S.fn a z
theorem AfterD.of {d : D} {v : V} (h : AfterD K σ Fz H F env' d v H') : After K σ Fz H F env' (.d d) v H' := by
  obtain ⟨Fz1, F1, R, S, r⟩ := h
  refine ⟨Fz1, F1, [], R, S.mono fun a z => z.elim id fun q => absurd q List.not_mem_nil, ?_, List.nodup_nil, fun b q => absurd q List.not_mem_nil⟩
  unfold RepO
  exact ⟨rfl, r⟩
/-- composition -/
theorem After.trans {F1 : Nat → List Addr} {Fz1 H1 : Hp} {o : O} {v : V} (S : Stp Fz H (Own F) Fz1 H1 (Own F1)) (h : After K σ Fz1 H1 F1 env' o v H') : After K σ Fz H F env' o v H' := by
  obtain ⟨Fz2, F2, B, R, T, r, q⟩ := h
  exact ⟨Fz2, F2, B, R, S.trans T, r, q⟩
theorem AfterD.trans {F1 : Nat → List Addr} {Fz1 H1 : Hp} {d : D} {v : V} (S : Stp Fz H (Own F) Fz1 H1 (Own F1)) (h : AfterD K σ Fz1 H1 F1 env' d v H') : AfterD K σ Fz H F env' d v H' := by
  obtain ⟨Fz2, F2, R, T, r⟩ := h
  exact ⟨Fz2, F2, R, S.trans T, r⟩
theorem AfterP.trans {F1 : Nat → List Addr} {Fz1 H1 : Hp} {p : Opnd} {v : V} (S : Stp Fz H (Own F) Fz1 H1 (Own F1)) (h : AfterP K σ Fz1 H1 F1 env' p v H') : AfterP K σ Fz H F env' p v H' := by
  obtain ⟨Fz2, F2, R, T, r⟩ := h
  exact ⟨Fz2, F2, R, S.trans T, r⟩
theorem RepP.mono {p : Opnd} {v : V} (e : Same Fz Fz') (h : RepP K Fz σ p v) : RepP K Fz' σ p v := by
  cases p with
  | val d => exact Rep.mono e d v h
  | slot i => exact h

/-- a value that is read: some own objects or none -/
def RepR (K : PySem.W.Frag) (Fz H : Hp) (o : O) (v : V) : Prop := ∃ B, RepO K Fz H o v B
theorem Rel.res (R : Rel K env σ Fz H F) {p : Opnd} {v : V} {o : O} (h : RepP K Fz σ p v) (e : res env p = some o) : RepR K Fz H o v := by
  cases p with
  | val d =>
    have e : some (O.d d) = some o := e
    cases e
    exact ⟨[], by unfold RepO; exact ⟨rfl, h⟩⟩
  | slot i =>
    obtain ⟨w, h1, h2⟩ := R.sl i o e
    have h : σ[i]? = some (some v) := h
    rw [h1] at h
    cases h
    exact ⟨_, h2⟩

/-- an operation's own result: nothing of what stands is changed -/
def NewV (K : PySem.W.Frag) (Fz H : Hp) (o : O) (v : V) (H' : Hp) : Prop :=
  ∃ Fz' B, Same Fz Fz' ∧ Same Fz' H' ∧ Same H H' ∧ (∀ a, Fz' a ≠ none → Fz a ≠ none ∨ H a = none) ∧ RepO K Fz' H' o v B ∧ B.Nodup ∧ ∀ b ∈ B, H b = none ∧ Fz' b = none
theorem Same.ne {H H' : Hp} (e : Same H H') {a : Addr} (h : H a ≠ none) : H' a ≠ none := by
  cases q : H a with
  | none => exact absurd q h
  | some u => rw [e a u q]; exact fun z => nomatch z
theorem Rel.grow (R : Rel K env σ Fz H F) (e1 : Same Fz Fz') (e2 : Same Fz' H') (e3 : Same H H') (hn : ∀ a, Fz' a ≠ none → Fz a ≠ none ∨ H a = none) : Rel K env σ Fz' H' F := by
  refine ⟨e2, R.len, fun i o e => ?_, R.no, R.nd, R.dj, fun i a ha => ?_⟩
  · obtain ⟨w, h1, h2⟩ := R.sl i o e
    exact ⟨w, h1, RepO.frame e1 o w _ (fun a _ u h => e3 a u h) h2⟩
  · cases q : Fz' a with
    | none => rfl
    | some u =>
      rcases hn a (by rw [q]; exact fun z => nomatch z) with z | z
      · exact absurd (R.fz i a ha) z
      · exact absurd z (R.alive ⟨i, ha⟩)
theorem Rel.new (R : Rel K env σ Fz H F) {o : O} {v : V} (h : NewV K Fz H o v H') : After K σ Fz H F env o v H' := by
  obtain ⟨Fz', B, e1, e2, e3, hn, r, nd, hb⟩ := h
  refine ⟨Fz', F, B, R.grow e1 e2 e3 hn, ⟨e1, fun a u h _ => e3 a u h, fun a h => Same.ne e3 h, fun a z => z.elim .inl fun q => .inr (hb a q).1, fun a z => (hn a z).elim .inl fun q => .inr (.inl q)⟩, r, nd, fun b z => ⟨fun q => ?_, (hb b z).2⟩⟩
  exact R.alive q (hb b z).1
/-- kinds of results -/
theorem NewV.data {d : D} {v : V} (sub : Same Fz H) (h : Rep K Fz d v) : NewV K Fz H (.d d) v H :=
  ⟨Fz, [], Same.refl _, sub, Same.refl _, fun _ z => .inl z, by unfold RepO; exact ⟨rfl, h⟩, List.nodup_nil, fun b q => absurd q List.not_mem_nil⟩
theorem Same.upd {H : Hp} {p : Addr} {u : HO} (h : H p = none) : Same H (upd H p u) := fun a w e => by
  rw [upd_ne (ne_of_none e h)]
  exact e
theorem RepOs.of_data : ∀ (ds : List D) (vs : List V), Reps K Fz ds vs → RepOs K Fz H (ds.map .d) vs []
  | [], vs, h => by
    unfold Reps at h
    show RepOs K Fz H [] vs []
    unfold RepOs
    exact ⟨h, rfl⟩
  | d :: ds, vs, h => by
    unfold Reps at h
    obtain ⟨v, r, e, h1, h2⟩ := h
    show RepOs K Fz H (.d d :: ds.map .d) vs []
    unfold RepOs
    refine ⟨v, r, [], [], e, rfl, ?_, RepOs.of_data ds r h2⟩
    unfold RepO
    exact ⟨rfl, h1⟩
/-- a new list of data -/
theorem NewV.lst {ds : List D} {vs : List V} {p : Addr} (sub : Same Fz H) (h : Reps K Fz ds vs) (hp : H p = none) : NewV K Fz H (mkL ds) (.ref p) (upd H p (.lst vs)) := by
  have hz : Fz p = none := by
    cases q : Fz p with
    | none => rfl
    | some u => rw [sub p u q] at hp; cases hp
  refine ⟨Fz, [p], Same.refl _, sub.trans (Same.upd hp), Same.upd hp, fun _ z => .inl z, ?_, by simp, fun b q => ?_⟩
  · unfold mkL RepO
    exact ⟨p, vs, [], rfl, upd_same, rfl, RepOs.of_data ds vs h⟩
  · have e : b = p := by simpa using q
    rw [e]
    exact ⟨hp, hz⟩
/-- a new tuple of data -/
theorem NewV.tup {ds : List D} {vs : List V} {p : Addr} {ob : Obj} (sub : Same Fz H) (h : Reps K Fz ds vs) (hp : H p = none) (hc : ob.cls = .type "tuple") (hd : ob.dict = none) : NewV K Fz H (.d (.tuple ds)) (.ref p) (upd H p (.frz ob (.tup vs))) := by
  have hz : Fz p = none := by
    cases q : Fz p with
    | none => rfl
    | some u => rw [sub p u q] at hp; cases hp
  refine ⟨L2.upd Fz p (.frz ob (.tup vs)), [], Same.upd hz, fun a u e => ?_, Same.upd hp, fun a z => ?_, ?_, List.nodup_nil, fun b q => absurd q List.not_mem_nil⟩
  · by_cases ha : a = p
    · subst ha
      rw [upd_same] at e ⊢
      exact e
    · rw [upd_ne ha] at e ⊢
      exact sub a u e
  · by_cases ha : a = p
    · rw [ha]; exact .inr hp
    · rw [upd_ne ha] at z; exact .inl z
  · unfold RepO
    refine ⟨rfl, ?_⟩
    unfold Rep
    exact ⟨p, vs, rfl, .inl ⟨ob, upd_same, hc, hd⟩, Reps.mono (Same.upd hz) ds vs h⟩
end

/-! ### what a reading of lists, of data tells -/
section
variable {K : PySem.W.Frag} {Fz H : Hp}
theorem datas_rep : ∀ (os : List O) (xs : List D) (vs : List V) (A : List Addr), datas os = some xs → RepOs K Fz H os vs A → Reps K Fz xs vs
  | [], xs, vs, A, e, h => by
    have e : some [] = some xs := e
    cases e
    unfold RepOs at h
    unfold Reps
    exact h.1
  | .d x :: os, xs, vs, A, e, h => by
    unfold datas at e
    cases q : datas os with
    | none => rw [q] at e; cases e
    | some ys =>
      rw [q] at e
      have e : some (x :: ys) = some xs := e
      cases e
      unfold RepOs at h
      obtain ⟨v, r, B, C, e1, _, h1, h2⟩ := h
      unfold RepO at h1
      unfold Reps
      exact ⟨v, r, e1, h1.2, datas_rep os ys r C q h2⟩
  | .lst _ :: os, xs, vs, A, e, h => by cases e
theorem RepR.list {o : O} {v : V} {xs : List D} (sub : Same Fz H) (h : RepR K Fz H o v) (e : asList o = some xs) : ∃ a vs, v = .ref a ∧ SqL K H a vs ∧ Reps K Fz xs vs := by
  obtain ⟨B, h⟩ := h
  cases o with
  | d x =>
    cases x with
    | list ys =>
      have e : some ys = some xs := e
      cases e
      unfold RepO at h
      have h2 := h.2
      unfold Rep at h2
      obtain ⟨a, vs, e1, h3, h4⟩ := h2
      exact ⟨a, vs, e1, Same.sqL sub h3, h4⟩
    | _ => cases e
  | lst os =>
    have e : datas os = some xs := e
    unfold RepO at h
    obtain ⟨a, vs, C, e1, h1, _, h2⟩ := h
    exact ⟨a, vs, e1, SqL.of h1, datas_rep os xs vs C e h2⟩
theorem RepR.tup {o : O} {v : V} {xs : List D} (sub : Same Fz H) (h : RepR K Fz H o v) (e : asTup o = some xs) : ∃ a vs, v = .ref a ∧ TupF K Fz a vs ∧ Reps K Fz xs vs := by
  obtain ⟨B, h⟩ := h
  cases o with
  | d x =>
    cases x with
    | tuple ys =>
      have e : some ys = some xs := e
      cases e
      unfold RepO at h
      have h2 := h.2
      unfold Rep at h2
      obtain ⟨a, vs, e1, h3, h4⟩ := h2
      exact ⟨a, vs, e1, h3, h4⟩
    | _ => cases e
  | lst os => cases e
theorem RepR.seq {o : O} {v : V} {xs : List D} (sub : Same Fz H) (h : RepR K Fz H o v) (e : asSeq o = some xs) : ∃ a vs, v = .ref a ∧ (SqL K H a vs ∨ SqT K H a vs) ∧ Reps K Fz xs vs := by
  unfold asSeq at e
  cases q : asList o with
  | some ys =>
    rw [q] at e
    cases e
    obtain ⟨a, vs, e1, h1, h2⟩ := h.list sub q
    exact ⟨a, vs, e1, .inl h1, h2⟩
  | none =>
    rw [q] at e
    obtain ⟨a, vs, e1, h1, h2⟩ := h.tup sub e
    exact ⟨a, vs, e1, .inr (h1.mono sub).sqT, h2⟩
theorem RepR.data (sub : Same Fz H) {o : O} {v : V} (h : RepR K Fz H o v) : Rep K H o.toD v := by
  obtain ⟨B, h⟩ := h
  exact RepO.toD sub o v B (fun _ _ _ q => q) h
theorem RepR.int {o : O} {v : V} {i : Int} (h : RepR K Fz H o v) (e : asInt o = some i) : v = .int i := by
  obtain ⟨B, h⟩ := h
  cases o with
  | d x =>
    cases x with
    | int j =>
      have e : some j = some i := e
      cases e
      unfold RepO at h
      have h2 := h.2
      unfold Rep at h2
      exact h2
    | _ => cases e
  | lst os => cases e
theorem RepR.str {o : O} {v : V} {i : Str} (h : RepR K Fz H o v) (e : asStr o = some i) : v = .str i := by
  obtain ⟨B, h⟩ := h
  cases o with
  | d x =>
    cases x with
    | str j =>
      have e : some j = some i := e
      cases e
      unfold RepO at h
      have h2 := h.2
      unfold Rep at h2
      exact h2
    | _ => cases e
  | lst os => cases e
theorem Reps.length : ∀ (ds : List D) (vs : List V), Reps K Fz ds vs → vs.length = ds.length
  | [], vs, h => by unfold Reps at h; rw [h]; rfl
  | d :: ds, vs, h => by
    unfold Reps at h
    obtain ⟨v, r, e, _, h2⟩ := h
    rw [e, List.length_cons, List.length_cons, Reps.length ds r h2]
theorem Reps.get : ∀ (ds : List D) (vs : List V) (i : Nat) (d : D), Reps K Fz ds vs → ds[i]? = some d → ∃ v, vs[i]? = some v ∧ Rep K Fz d v
  | [], _, _, _, _, e => by simp at e
  | x :: ds, vs, 0, d, h, e => by
    unfold Reps at h
    obtain ⟨v, r, e1, h1, _⟩ := h
    simp at e
    subst e
    rw [e1]
    exact ⟨v, rfl, h1⟩
  | x :: ds, vs, i + 1, d, h, e => by
    unfold Reps at h
    obtain ⟨v, r, e1, _, h2⟩ := h
    rw [e1]
    exact Reps.get ds r i d h2 (by simpa using e)
theorem Reps.append : ∀ (ds es : List D) (vs ws : List V), Reps K Fz ds vs → Reps K Fz es ws → Reps K Fz (ds ++ es) (vs ++ ws)
  | [], es, vs, ws, h, h' => by unfold Reps at h; rw [h]; exact h'
  | d :: ds, es, vs, ws, h, h' => by
    unfold Reps at h
    obtain ⟨v, r, e, h1, h2⟩ := h
    rw [e]
    show Reps K Fz (d :: (ds ++ es)) (v :: (r ++ ws))
    unfold Reps
    exact ⟨v, _, rfl, h1, Reps.append ds es r ws h2 h'⟩
theorem Reps.take : ∀ (n : Nat) (ds : List D) (vs : List V), Reps K Fz ds vs → Reps K Fz (ds.take n) (vs.take n)
  | 0, ds, vs, h => by show Reps K Fz [] []; unfold Reps; rfl
  | n + 1, [], vs, h => by unfold Reps at h; rw [h]; show Reps K Fz [] []; unfold Reps; rfl
  | n + 1, d :: ds, vs, h => by
    unfold Reps at h
    obtain ⟨v, r, e, h1, h2⟩ := h
    rw [e]
    show Reps K Fz (d :: ds.take n) (v :: r.take n)
    unfold Reps
    exact ⟨v, _, rfl, h1, Reps.take n ds r h2⟩
theorem Reps.drop : ∀ (n : Nat) (ds : List D) (vs : List V), Reps K Fz ds vs → Reps K Fz (ds.drop n) (vs.drop n)
  | 0, ds, vs, h => h
  | n + 1, [], vs, h => by unfold Reps at h; rw [h]; show Reps K Fz [] []; unfold Reps; rfl
  | n + 1, d :: ds, vs, h => by
    unfold Reps at h
    obtain ⟨v, r, e, h1, h2⟩ := h
    rw [e]
    exact Reps.drop n ds r h2
theorem Reps.of_all (f : V → D) : ∀ (vs : List V), (∀ v ∈ vs, Rep K Fz (f v) v) → Reps K Fz (vs.map f) vs
  | [], _ => by show Reps K Fz [] []; unfold Reps; rfl
  | v :: vs, h => by
    show Reps K Fz (f v :: vs.map f) (v :: vs)
    unfold Reps
    exact ⟨v, vs, rfl, h v List.mem_cons_self, Reps.of_all f vs fun w hw => h w (List.mem_cons_of_mem _ hw)⟩
theorem Reps.cons {d : D} {ds : List D} {v : V} {vs : List V} (h1 : Rep K Fz d v) (h2 : Reps K Fz ds vs) : Reps K Fz (d :: ds) (v :: vs) := by
  unfold Reps
  exact ⟨v, vs, rfl, h1, h2⟩
theorem Reps.nil : Reps K Fz [] [] := by
  unfold Reps
  rfl
theorem Reps.reverse (ds : List D) : ∀ (vs : List V), Reps K Fz ds vs → Reps K Fz ds.reverse vs.reverse := by
  induction ds with
  | nil => intro vs h; unfold Reps at h; rw [h]; exact Reps.nil
  | cons d ds ih =>
    intro vs h
    unfold Reps at h
    obtain ⟨v, r, e, h1, h2⟩ := h
    rw [e, List.reverse_cons, List.reverse_cons]
    exact Reps.append _ _ _ _ (ih r h2) (Reps.cons h1 Reps.nil)
theorem Reps.replicate {ds : List D} {vs : List V} (h : Reps K Fz ds vs) : ∀ n : Nat, Reps K Fz (List.replicate n ds).flatten (List.replicate n vs).flatten
  | 0 => Reps.nil
  | n + 1 => by
    rw [List.replicate_succ, List.replicate_succ, List.flatten_cons, List.flatten_cons]
    exact Reps.append _ _ _ _ h (Reps.replicate h n)
theorem Reps.ints : ∀ (xs : List D) (ns : List Int) (vs : List V), isInts xs = some ns → Reps K Fz xs vs → vs = ns.map V.int ∧ xs = ns.map .int
  | [], ns, vs, e, h => by
    have e : some [] = some ns := e
    cases e
    unfold Reps at h
    exact ⟨h, rfl⟩
  | .int i :: xs, ns, vs, e, h => by
    unfold isInts at e
    cases q : isInts xs with
    | none => rw [q] at e; cases e
    | some ms =>
      rw [q] at e
      have e : some (i :: ms) = some ns := e
      cases e
      unfold Reps at h
      obtain ⟨v, r, e1, h1, h2⟩ := h
      unfold Rep at h1
      obtain ⟨q1, q2⟩ := Reps.ints xs ms r q h2
      rw [e1, h1, q1, q2]
      exact ⟨rfl, rfl⟩
  | .none :: _, _, _, e, _ => by cases e
  | .bool _ :: _, _, _, e, _ => by cases e
  | .str _ :: _, _, _, e, _ => by cases e
  | .list _ :: _, _, _, e, _ => by cases e
  | .tuple _ :: _, _, _, e, _ => by cases e
  | .dict _ :: _, _, _, e, _ => by cases e
theorem Reps.bools : ∀ (xs : List D) (ns : List Bool) (vs : List V), isBools xs = some ns → Reps K Fz xs vs → vs = ns.map V.bl
  | [], ns, vs, e, h => by
    have e : some [] = some ns := e
    cases e
    unfold Reps at h
    exact h
  | .bool i :: xs, ns, vs, e, h => by
    unfold isBools at e
    cases q : isBools xs with
    | none => rw [q] at e; cases e
    | some ms =>
      rw [q] at e
      have e : some (i :: ms) = some ns := e
      cases e
      unfold Reps at h
      obtain ⟨v, r, e1, h1, h2⟩ := h
      unfold Rep at h1
      rw [e1, h1, Reps.bools xs ms r q h2]
      rfl
  | .none :: _, _, _, e, _ => by cases e
  | .int _ :: _, _, _, e, _ => by cases e
  | .str _ :: _, _, _, e, _ => by cases e
  | .list _ :: _, _, _, e, _ => by cases e
  | .tuple _ :: _, _, _, e, _ => by cases e
  | .dict _ :: _, _, _, e, _ => by cases e
theorem Reps.of_ints : ∀ (ns : List Int), Reps K Fz (ns.map .int) (ns.map V.int)
  | [] => Reps.nil
  | n :: ns => Reps.cons (by unfold Rep; rfl) (Reps.of_ints ns)
mutual
/-- data as the library's comparisons take it -/
theorem Rep.dp : ∀ (d : D) (v : V), Rep K H d v → Dp K H v d
  | .none, v, h => by unfold Rep at h; rw [h]; exact .non
  | .bool b, v, h => by unfold Rep at h; rw [h]; exact .bl b
  | .int i, v, h => by unfold Rep at h; rw [h]; exact .int i
  | .str s, v, h => by unfold Rep at h; rw [h]; exact .str s
  | .list xs, v, h => by
    unfold Rep at h
    obtain ⟨a, vs, e, h1, h2⟩ := h
    rw [e]
    exact .lst h1 (Reps.dp xs vs h2)
  | .tuple xs, v, h => by
    unfold Rep at h
    obtain ⟨a, vs, e, h1, h2⟩ := h
    rw [e]
    exact .tup h1.sqT (Reps.dp xs vs h2)
  | .dict _, v, h => by unfold Rep at h; exact h.elim
theorem Reps.dp : ∀ (ds : List D) (vs : List V), Reps K H ds vs → DpAll K H vs ds
  | [], vs, h => by unfold Reps at h; rw [h]; exact .nil
  | d :: ds, vs, h => by
    unfold Reps at h
    obtain ⟨v, r, e, h1, h2⟩ := h
    rw [e]
    exact .cons (Rep.dp d v h1) (Reps.dp ds r h2)
end
end
end PD
end

section
set_option Elab.async false
set_option linter.all false
set_option maxRecDepth 100000
set_option maxHeartbeats 1000000
/-! PD: operations: the rules over abstract heaps, and that they do what the evaluator says. -/
namespace PD
open PySem PySem.Spec PyProof.Rows L2

/-! ### plain data -/
section
variable {K : PySem.W.Frag} {H : Hp}
mutual
theorem Rep.plain : ∀ (d : D) (v : V), Rep K H d v → d.plain = true
  | .none, v, h => by simp [PyData.plain]
  | .bool b, v, h => by simp [PyData.plain]
  | .int i, v, h => by simp [PyData.plain]
  | .str s, v, h => by simp [PyData.plain]
  | .list xs, v, h => by
    unfold Rep at h
    obtain ⟨a, vs, e, h1, h2⟩ := h
    simp only [PyData.plain]
    exact Reps.plain xs vs h2
  | .tuple xs, v, h => by
    unfold Rep at h
    obtain ⟨a, vs, e, h1, h2⟩ := h
    simp only [PyData.plain]
    exact Reps.plain xs vs h2
  | .dict _, v, h => by unfold Rep at h; exact h.elim
theorem Reps.plain : ∀ (ds : List D) (vs : List V), Reps K H ds vs → PyData.plainAll ds = true
  | [], vs, h => by simp [PyData.plainAll]
  | d :: ds, vs, h => by
    unfold Reps at h
    obtain ⟨v, r, e, h1, h2⟩ := h
    simp only [PyData.plainAll, Rep.plain d v h1, Reps.plain ds r h2, Bool.and_self]
end
end

/-! ### rules -/
/-- a new tuple -/
def newT (xs : List V) (H : Hp) (Q : VK) : Prop := ∀ p ob, H p = none → ob.cls = .type "tuple" → ob.dict = none → Q (.ref p) (upd H p (.frz ob (.tup xs)))
def newL (xs : List V) (H : Hp) (Q : VK) : Prop := ∀ p, H p = none → Q (.ref p) (upd H p (.lst xs))

def rEqP (K : PySem.W.Frag) (neg : Bool) : R2 := fun x y H Q => ∃ d e, Rep K H d x ∧ Rep K H e y ∧ min d.depth e.depth ≤ 60 ∧ Q (.bl (if neg then !PyData.eqv d e else PyData.eqv d e)) H
def rInP (K : PySem.W.Frag) (neg : Bool) : R2 := fun x y H Q => ∃ d ds, Rep K H d x ∧ (Dp K H y (.list ds) ∨ Dp K H y (.tuple ds)) ∧ PyData.plainAll ds = true ∧ min (PyData.depthAll ds) d.depth ≤ 60 ∧ Q (.bl (if neg then !ds.any fun z => PyData.eqv z d else ds.any fun z => PyData.eqv z d)) H
def rCatS (K : PySem.W.Frag) : R2 := fun x y H Q => ∃ l b xs zs, x = .ref l ∧ y = .ref b ∧ SqL K H l xs ∧ SqL K H b zs ∧ xs.length + zs.length ≤ sizeLine ∧ newL (xs ++ zs) H Q
def rCatF (K : PySem.W.Frag) : R2 := fun x y H Q => ∃ a b xs ys, x = .ref a ∧ y = .ref b ∧ SqT K H a xs ∧ SqT K H b ys ∧ xs.length + ys.length ≤ sizeLine ∧
  (xs = [] → Q (.ref b) H) ∧ (xs ≠ [] → ys = [] → Q (.ref a) H) ∧ (xs ≠ [] → ys ≠ [] → newT (xs ++ ys) H Q)
def rRepS (K : PySem.W.Frag) : R2 := fun x y H Q => ∃ l k xs, x = .ref l ∧ y = .int k ∧ SqL K H l xs ∧ -(2 ^ 63) ≤ k ∧ k < 2 ^ 63 ∧ xs.length * k.toNat ≤ sizeLine ∧ newL (List.replicate k.toNat xs).flatten H Q

def rAddA (K : PySem.W.Frag) : R2 := fun x y H Q => rI0 (fun i j => .int (i + j)) x y H Q ∨ (rCatS K x y H Q ∨ rCatF K x y H Q)
def rMulA (K : PySem.W.Frag) : R2 := fun x y H Q => rI CMul (fun i j => .int (i * j)) x y H Q ∨ rRepS K x y H Q
def rIxA (K : PySem.W.Frag) : R2 := fun x y H Q => rIxL K x y H Q ∨ rIxT K x y H Q

section
variable {X : Cx} {pins : List (Addr × Obj)} {σ : L2.St} {H : Hp} {s : Shared}
theorem I_plain (I : Inv X pins σ H s) {d : D} {v : V} {u : Value} (h : Rep X.K H d v) (r : RelV v u) : ∃ as, Reads s.heap u d as := Dp.reads I d v u (Rep.dp d v h) r
theorem op_eqP (hu : X.A.units + 64 < cLine) : OpR X (compareOp .Eq) (rEqP X.K false) := by
  intro pins s σ H x y v u Q I rx ry h
  obtain ⟨d, e, hd, he, hm, q⟩ := h
  obtain ⟨as, r1⟩ := I_plain I hd rx
  obtain ⟨bs, r2⟩ := I_plain I he ry
  exact SeqAt.eq_plain r1 r2 (Rep.plain d x hd) (Rep.plain e y he) (by omega) ⟨.bl _, H, I, rfl, q⟩
theorem op_neP (hu : X.A.units + 64 < cLine) : OpR X (compareOp .NotEq) (rEqP X.K true) := by
  intro pins s σ H x y v u Q I rx ry h
  obtain ⟨d, e, hd, he, hm, q⟩ := h
  obtain ⟨as, r1⟩ := I_plain I hd rx
  obtain ⟨bs, r2⟩ := I_plain I he ry
  exact SeqAt.ne_plain r1 r2 (Rep.plain d x hd) (Rep.plain e y he) (by omega) ⟨.bl _, H, I, rfl, q⟩
theorem op_inP (hu : X.A.units + 64 < cLine) : OpR X (compareOp .In) (rInP X.K false) := by
  intro pins s σ H x y v u Q I rx ry h
  obtain ⟨d, ds, hd, he, hp, hm, q⟩ := h
  obtain ⟨as, r1⟩ := I_plain I hd rx
  rcases he with he | he
  · obtain ⟨bs, r2⟩ := Dp.reads I _ y u he ry
    exact SeqAt.in_list_data r2 r1 hp (Rep.plain d x hd) (by omega) ⟨.bl _, H, I, rfl, q⟩
  · obtain ⟨bs, r2⟩ := Dp.reads I _ y u he ry
    exact SeqAt.in_tuple_data r2 r1 hp (Rep.plain d x hd) (by omega) ⟨.bl _, H, I, rfl, q⟩
theorem op_notInP (hu : X.A.units + 64 < cLine) : OpR X (compareOp .NotIn) (rInP X.K true) := by
  intro pins s σ H x y v u Q I rx ry h
  obtain ⟨d, ds, hd, he, hp, hm, q⟩ := h
  obtain ⟨as, r1⟩ := I_plain I hd rx
  rcases he with he | he
  · obtain ⟨bs, r2⟩ := Dp.reads I _ y u he ry
    exact SeqAt.notIn_list_data r2 r1 hp (Rep.plain d x hd) (by omega) ⟨.bl _, H, I, rfl, q⟩
  · obtain ⟨bs, r2⟩ := Dp.reads I _ y u he ry
    exact SeqAt.notIn_tuple_data r2 r1 hp (Rep.plain d x hd) (by omega) ⟨.bl _, H, I, rfl, q⟩

theorem op_catS : OpR X (binaryOp .Add) (rCatS X.K) := by
  intro pins s σ H x y v u Q I rx ry h
  obtain ⟨l, b, xs, zs, rfl, rfl, hH, hB, hz, q⟩ := h
  cases rx
  cases ry
  obtain ⟨its, r, ⟨⟨cls, dd, data, sl⟩, n, ho, hc, _, hd⟩, _⟩ := I.list hH
  obtain ⟨its2, r2, ⟨⟨cls2, dd2, data2, sl2⟩, n2, ho2, hc2, _, hd2⟩, _⟩ := I.list hB
  simp only at hc hd hc2 hd2
  subst hc hd hc2 hd2
  have l1 := r.length
  have l2 := r2.length
  have e : its.toArray ++ its2.toArray = (its ++ its2).toArray := by simp
  refine concat_meets ⟨_, ho, rfl⟩ ⟨_, ho2, rfl⟩ noFill_list_add seq_list_add PySem.F.slot_list_add PySem.F.entry_list_add (PySem.F.args_list_add_2 _ _) (list_addW l b its.toArray its2.toArray n n2 dd dd2 sl sl2 (by simp only [List.size_toArray]; omega)) ⟨ho, ho2, ?_⟩
  rw [e]
  exact ⟨.ref _, _, I.lnew (t' := s.toks) (r.append r2) (by rw [List.length_append]; omega), rfl, q _ I.fresh⟩
theorem laidT {its : List Value} {ys : List V} {t' : Nat} (I : Inv X pins σ H s) (hv : Vals ys its) (hz : ys.length ≤ sizeLine) :
    Inv X pins σ (upd H s.heap.objs.size (.frz { cls := .type "tuple", data := .seq its.toArray } (.tup ys))) { s with heap := s.heap.push { cls := .type "tuple", data := .seq its.toArray }, toks := t' } :=
  I.laid (fun _ _ q => Heap.get?_push_of_some _ q) (Nat.le_refl _) ⟨Heap.get?_push_size _ rfl, hz, its, hv, IsTup.new _ _⟩
theorem op_catF : OpR X (binaryOp .Add) (rCatF X.K) := by
  intro pins s σ H x y v u Q I rx ry h
  obtain ⟨a, b, xs, ys, rfl, rfl, ha, hb, hz, q0, q1, q2⟩ := h
  cases rx
  cases ry
  obtain ⟨its, r1, p1, _⟩ := I.tuple ha
  obtain ⟨its2, r2, p2, _⟩ := I.tuple hb
  by_cases hx : xs = []
  · subst hx
    cases r1
    exact cat_tup0 p1 p2 ⟨.ref b, H, I, rfl, q0 rfl⟩
  · refine HT.cat_tup p1 p2 (fun z => hx (r1.nil_iff.mp z)) (fun z => ⟨.ref a, H, I, rfl, q1 hx (r2.nil_iff.mp z)⟩) (fun z => ?_) (by rw [← r1.length, ← r2.length]; exact hz)
    exact ⟨.ref s.heap.objs.size, _, laidT (t' := s.toks) I (r1.append r2) (by rw [List.length_append]; exact hz), rfl, q2 hx (fun w => z (r2.nil_iff.mpr w)) _ _ I.fresh rfl rfl⟩
theorem op_repS : OpR X (binaryOp .Mult) (rRepS X.K) := by
  intro pins s σ H x y v u Q I rx ry h
  obtain ⟨l, k, xs, rfl, rfl, hH, h1, h2, hz, q⟩ := h
  cases rx
  obtain ⟨t, rfl⟩ := ry
  obtain ⟨its, r, ⟨⟨cls, dd, data, sl⟩, n, ho, hc, _, hd⟩, _⟩ := I.list hH
  simp only at hc hd
  subst hc hd
  have hl := r.length
  have hsz : its.toArray.size * k.toNat ≤ sizeLine := by rw [List.size_toArray, ← hl]; exact hz
  have hse := sizeLine_eq
  have hcap : ¬ its.toArray.size * k.toNat > (2 ^ 63 - 1) / 8 := by
    have : (sizeLine : Nat) ≤ (2 ^ 63 - 1) / 8 := by decide
    omega
  have hlong : ¬ Builtin.List.listTooLong (its.toArray.size * k.toNat) = true := by
    rw [notLongL hsz]
    exact Bool.false_ne_true
  refine wpAny_binaryOp_repeat_ref (T := "list") (U := "int") (by decide) ⟨_, ho, rfl⟩ (fun s' => typeIs_int s' k t) noFill_list_mul F.fills_int_mul F.slot_int_rmul repeat_list F.slot_int_index.lookup
    (call_meets F.slot_int_rmul (typeIs_int s k t) F.entry_int_rmul (F.args_int_rmul_2 _ _) (lm_int_rmul_list_any k t l its.toArray n dd sl)
      ⟨ho, rfl, ⟨_, ho, rfl⟩, call_meets F.slot_list_mul ⟨_, ho, rfl⟩ F.entry_list_mul (F.args_list_mul_2 _ _)
        (lm_list_mul_any l its.toArray n dd sl k t (by rw [fitsIndex_both h1 h2]; exact Bool.false_ne_true) hcap hlong)
        ⟨ho, ?_⟩⟩)
  rw [listMul_foldl_if]
  exact ⟨.ref _, _, I.lnew (t' := s.toks) (r.rep k.toNat) (by rw [PyProof.Rows.lm_len_rep_flat, Nat.mul_comm]; exact hz), rfl, q _ I.fresh⟩
theorem op_addA : OpR X (binaryOp .Add) (rAddA X.K) := op_add.or (op_catS.or op_catF)
theorem op_mulA : OpR X (binaryOp .Mult) (rMulA X.K) := op_mul.or op_repS
theorem ix_A : IxR X (rIxA X.K) := IxR.or ix_list ix_tup

/-- len, list, tuple .. -/
def rLenA (K : PySem.W.Frag) : List V → Hp → VK → Prop := fun xs H Q => (∃ p ys, xs = [.ref p] ∧ (SqL K H p ys ∨ SqT K H p ys) ∧ Q (.int ys.length) H) ∨ ∃ z, xs = [.str z] ∧ z.length ≤ sizeLine ∧ Q (.int z.length) H
theorem call_lenA : CallR X (.builtin "len") (rLenA X.K) := CallR.or call_len_seq call_len_str
def rTupA (K : PySem.W.Frag) : List V → Hp → VK → Prop := fun xs H Q => ∃ p ys, xs = [.ref p] ∧ ((SqL K H p ys ∧ newT ys H Q) ∨ (SqT K H p ys ∧ Q (.ref p) H))
theorem call_tupA : CallR X (.type "tuple") (rTupA X.K) := by
  intro pins s σ H xs us Q I r h
  obtain ⟨p, ys, rfl, h⟩ := h
  obtain ⟨u, rfl, rx⟩ := vals1 r
  cases rx
  rcases h with ⟨hq, q⟩ | ⟨hq, q⟩
  · obtain ⟨its, r', pl, hz⟩ := I.list hq
    have hlen := r'.length
    refine call_tuple_list pl.isList (fun h' kp => ?_) (by simp only [List.size_toArray] <;> omega)
    have I1 : Inv X pins σ H { s with heap := h' } := I.kept (t' := s.toks) kp
    exact ⟨.ref h'.objs.size, _, laidT (t' := s.toks) I1 r' hz, rfl, q _ _ (I1.hok.fresh (Nat.le_refl _)) rfl rfl⟩
  · obtain ⟨its, r', pl, hz⟩ := I.tuple hq
    exact call_tuple_same pl ⟨.ref p, H, I, rfl, q⟩
def rLstA (K : PySem.W.Frag) : List V → Hp → VK → Prop := fun xs H Q => ∃ p ys, xs = [.ref p] ∧ (SqL K H p ys ∨ SqT K H p ys) ∧ newL ys H Q
theorem call_lstA : CallR X (.type "list") (rLstA X.K) := call_list_of
def rSlA (K : PySem.W.Frag) : V → Option Int → Option Int → Hp → VK → Prop := fun x lo hi H Q => ∃ a xs, x = .ref a ∧ ((SqL K H a xs ∧ newL (cutV xs lo hi) H Q) ∨ (SqT K H a xs ∧
  (HT.sIx xs.length 0 lo = 0 ∧ HT.sIx xs.length xs.length hi = xs.length → Q (.ref a) H) ∧ (¬ (HT.sIx xs.length 0 lo = 0 ∧ HT.sIx xs.length xs.length hi = xs.length) → newT (cutV xs lo hi) H Q)))
theorem sl_A : SlR X (rSlA X.K) := by
  intro pins s σ H x v vl vu lo hi sl Q I rx hs pl pu h
  obtain ⟨a, xs, rfl, h⟩ := h
  rcases h with ⟨hx, q⟩ | ⟨hx, q1, q2⟩
  · exact sl_list pins s σ H _ v vl vu lo hi sl Q I rx hs pl pu ⟨a, xs, rfl, hx, q⟩
  · cases rx
    obtain ⟨its, r, ht, hz⟩ := I.tuple hx
    have hlen : its.toArray.size = xs.length := by rw [List.size_toArray]; exact r.length.symm
    refine ⟨"tuple", _, PyProof.Rows.slot_tuple_getitem.lookup, ht.typeIs, ?_⟩
    by_cases hw : HT.sIx xs.length 0 lo = 0 ∧ HT.sIx xs.length xs.length hi = xs.length
    · exact getItem_tuple_whole ht hs pl pu (by rw [hlen]; exact hw) ⟨.ref a, H, I, rfl, q1 hw⟩
    · refine HT.getItem_tuple_cut ht hs pl pu (by rw [hlen]; exact hw) ?_ (by rw [hlen]; exact hz)
      rw [hlen]
      refine ⟨.ref s.heap.objs.size, upd H s.heap.objs.size (.frz _ (.tup (cutV xs lo hi))), I.laid (t' := s.toks) (fun b ob q => Heap.get?_push_of_some _ q) (Nat.le_refl _) ?_, rfl, q2 hw _ { cls := .type "tuple", data := .seq ((its.drop (HT.sIx xs.length 0 lo)).take (HT.sIx xs.length xs.length hi - HT.sIx xs.length 0 lo)).toArray } I.fresh rfl rfl⟩
      exact ⟨Heap.get?_push_size _ rfl, Nat.le_trans (cutV_length xs lo hi) hz, _, (r.drop (HT.sIx xs.length 0 lo)).take (HT.sIx xs.length xs.length hi - HT.sIx xs.length 0 lo), IsTup.new _ _⟩

/-! ### sorted -/
theorem each_of {α : Type} {R : Value → α → Prop} {f : V → D} : ∀ {bs : List (V × D)} {us : List Value}, Vals (bs.map Prod.fst) us → PySem.W.EachIs (fun (u : Value) (b : V × D) => RelV b.1 u) us bs
  | [], _, r => by
    cases r
    exact .nil
  | b :: bs, _, r => by
    cases r with
    | cons r1 r2 => exact .cons r1 (each_of (α := α) (R := R) (f := f) r2)
theorem each_vals : ∀ {bs : List (V × D)} {us : List Value}, PySem.W.EachIs (fun (u : Value) (b : V × D) => RelV b.1 u) us bs → Vals (bs.map Prod.fst) us
  | _, _, .nil => .nil
  | _, _, .cons r t => .cons r (each_vals t)
theorem each_reads (I : Inv X pins σ H s) : ∀ {bs : List (V × D)} {us : List Value}, (∀ b ∈ bs, Rep X.K H b.2 b.1) → Vals (bs.map Prod.fst) us → PySem.W.EachIs (fun (u : Value) (b : V × D) => ∃ as, Reads s.heap u b.2 as) us bs
  | [], _, _, r => by
    cases r
    exact .nil
  | b :: bs, _, h, r => by
    cases r with
    | cons r1 r2 => exact .cons (I_plain I (h b List.mem_cons_self) r1) (each_reads I (fun c hc => h c (List.mem_cons_of_mem _ hc)) r2)
def rSortD (K : PySem.W.Frag) : List V → Hp → VK → Prop := fun vs H Q => ∃ (a : Addr) (bs : List (V × D)), vs = [.ref a] ∧ SqL K H a (bs.map Prod.fst) ∧ (∀ b ∈ bs, Rep K H b.2 b.1) ∧ sortB (bs.map Prod.snd) = true ∧
  newL ((bs.mergeSort (PySem.W.dataLe false Prod.snd)).map Prod.fst) H Q
theorem sortB_ok {xs : List D} (h : sortB xs = true) : PySem.W.AllAlike xs ∧ PySem.W.Sortable xs ∧ ∀ x ∈ xs, x.depth ≤ 60 := by
  unfold sortB alikeB at h
  simp only [Bool.and_eq_true, Bool.or_eq_true, List.all_eq_true, decide_eq_true_eq] at h
  obtain ⟨⟨h1, h2⟩, h3⟩ := h
  refine ⟨fun d hd d' hd' => h1 d hd d' hd', ?_, h3⟩
  rcases h2 with h2 | h2
  · refine .inl fun d hd => ?_
    have q := h2 d hd
    cases d with
    | tuple ys =>
      cases ys with
      | nil => cases q
      | cons y ys => exact ⟨y, ys, rfl⟩
    | _ => cases q
  · refine .inr fun d hd => ?_
    have q := h2 d hd
    cases d with
    | none => cases q
    | tuple ys => cases q
    | _ => exact ⟨(fun z => nomatch z), (fun _ z => nomatch z)⟩
theorem cr_sortD (hu : X.A.units + 64 < cLine) : CallR X (.builtin "sorted") (rSortD X.K) := by
  intro pins s σ H vs us Q I r h
  obtain ⟨a, bs, rfl, hs, hr, hb, q⟩ := h
  obtain ⟨its, rv, hl, hz⟩ := I.list hs
  rw [Vals.ref1 r]
  obtain ⟨h1, h2, h3⟩ := sortB_ok hb
  have hlen : bs.length ≤ sizeLine := by rw [← List.length_map (f := Prod.fst)]; exact hz
  refine PySem.W.sorted_data (bs := bs) (enc := Prod.snd) (R := fun (u : Value) (b : V × D) => RelV b.1 u) hl.isList (each_of (α := Unit) (R := fun _ _ => True) (f := fun _ => .none) rv) (each_reads I hr rv) h1 h2 hlen (fun b hb' => ?_) fun out ho eo => ?_
  · have := h3 b.2 (List.mem_map_of_mem hb')
    omega
  · obtain ⟨c, hc⟩ := sortedAll_at s.heap its out.toArray
    have hsz : (bs.mergeSort (PySem.W.dataLe false Prod.snd)).length = bs.length := List.length_mergeSort ..
    exact ⟨.ref (s.heap.objs.size + 1), _, I.laid (t' := s.toks) (o := .lst ((bs.mergeSort (PySem.W.dataLe false Prod.snd)).map Prod.fst)) (fun _ _ e => sortedAll_old e) (Nat.le_succ _) ⟨by rw [List.length_map, hsz]; exact hlen, out, c, each_vals eo, hc⟩, rfl, q _ (I.hok.fresh (Nat.le_succ _))⟩
end
end PD
end

section
set_option Elab.async false
set_option linter.all false
set_option maxRecDepth 100000
set_option maxHeartbeats 4000000
/-! PD: sorted(set(xs)) of ints. -/
namespace PD
open PySem PySem.Spec PyProof.Rows L2

/-- the set that is made first -/
abbrev fset (w : World) : Obj := { cls := .type "set", dict := none, data := .set #[] 0 (.fresh 0 0 (!w.params.followText "set-order")) }
section
variable {P : Program} {w : World} {A : Around} {E : Value → Shared → Prop} {s : Shared}
/-- set(l), l a list of ints: the library's own way for a tuple, over a list -/
theorem set_lstI {l : Addr} {items : Array Value} (ns : List Int) {Q : Value → Shared → Prop} (hh : A.handled = none) (hl : s.heap.IsList l items) (hit : IntsAre items.toList ns) (hb : ns.length + 1 < scanBound)
    (h : ∀ (h' : Heap) (tk c : Nat), SetR w h' s.heap.objs.size (fun j => decide (j ∈ ns)) c → (∀ b o, s.heap.get? b = some o → h'.get? b = some o) → Q (.ref s.heap.objs.size) { s with heap := h', toks := tk }) :
    wpAny (model P w) A (call (.type "set") [.ref l]) Q E s := by
  have hisz : items.size = ns.length := by
    have q := IntsAre.length hit
    rw [Array.length_toList] at q
    exact q
  obtain ⟨c, tl, hmro⟩ := F.called_set.mro
  have hmade := F.called_set.made
  have hsub := F.called_set.sub
  refine wpAny_call (codeAny_of_tree ?_)
  show wpAny _ _ (callAny (.type "set") _) _ _ _
  refine wpAny_pure ⟨Code.quiet_builtin _ (by decide +kernel), codeAny_builtin F.entry_type_call ?_⟩
  rw [Around.under_plain (weight_type_call_type "set" [.ref l] []) rfl]
  have h1 := F.called_set.notType
  have h2 := F.called_set.canCreate
  have hct := F.typeCall_set_1 (.ref l)
  repeat (any_goals (first | assumption | wp_step))
  refine codeAny_mono (code_set_led1 (.ref l) (E := E) (Q₁ := fun obj t => obj = .ref s.heap.objs.size ∧ t = { s with heap := s.heap.push (fset w) }) ⟨rfl, rfl⟩) fun r t hr => ?_
  cases r with
  | error e => exact hr
  | ok fl =>
    cases fl with
    | ret obj =>
      obtain ⟨rfl, rfl⟩ := hr
      have hS : (s.heap.push (fset w)).get? s.heap.objs.size = some (fset w) := Heap.get?_push_size _ rfl
      have hT : Shared.TypeIs { s with heap := s.heap.push (fset w) } (.ref s.heap.objs.size) "set" := ⟨_, hS, rfl⟩
      have hli := F.called_set.init.lookup
      have hbi := F.called_set.init.bind (.ref s.heap.objs.size)
      repeat (any_goals (first | assumption | wp_step))
      refine codeAny_mono (codeAny_call_builtin (R := wants (fun r t2 => r = .none ∧ ∃ h' tk c, t2 = { s with heap := h', toks := tk } ∧ SetR w h' s.heap.objs.size (fun j => decide (j ∈ ns)) c ∧
          (∀ b o, s.heap.get? b = some o → h'.get? b = some o)) E) F.called_set.init.plain F.entry_set_init (check_set_init_1 hT ?_)) fun r2 t2 hr2 => ?_
      · obtain ⟨⟨ocls, odict, odata, oslots⟩, hol, hcl, nl, hdl⟩ := id hl
        simp only at hcl hdl
        subst hcl
        subst hdl
        have hol' : (s.heap.push (fset w)).get? l = some { cls := .type "list", dict := odict, data := .seq items nl, slots := oslots } := Heap.get?_push_of_some _ hol
        have f1 := F.sub_list_set
        have f2 := F.sub_list_frozenset
        have f3 : (Value.type "list" == Value.type "dict") = false := by decide
        have hl1 : (s.heap.push (fset w)).IsList l items := ⟨_, hol', rfl, nl, rfl⟩
        unfold Builtin.«set.__init__» noKeywords Builtin.Frozenset.updateFrom
        generalize hPI : pyIter = PI
        wp_walk
        subst hPI
        refine wpAny_pyIter_list hl1 ?_
        refine wpAny_bind (wpAny_runValue ?_)
        have hlS : l < s.heap.objs.size := Heap.lt_size hol
        have hh3 : A.in1.in1.in1.handled = none := by simp [hh]
        have hz : (s.heap.push (fset w)).objs.size = s.heap.objs.size + 1 := Heap.size_push ..
        have hne : l ≠ (s.heap.push (fset w)).objs.size := by rw [hz]; exact Nat.ne_of_lt (Nat.lt_succ_of_lt hlS)
        have hSf : s.heap.objs.size ∉ [(s.heap.push (fset w)).objs.size, l] := fun z => by
          rcases List.mem_cons.mp z with z | z
          · rw [hz] at z
            exact absurd z (Nat.ne_of_lt (Nat.lt_succ_self _))
          · rw [List.mem_singleton.mp z] at hlS
            exact Nat.lt_irrefl _ hlS
        have hval : ∀ (i : Nat) (v : Value), items[i]? = some v → ∃ k t, ns[i]? = some k ∧ v = .int k t := fun i v hv => by
          have hi : i < ns.length := by rw [← hisz]; exact (Array.getElem?_eq_some_iff.mp hv).1
          obtain ⟨t, e⟩ := PyProof.Rows.IntsAre.int_at hit i v (by rw [Array.getElem?_toList]; exact hv)
          refine ⟨ns[i], t, List.getElem?_eq_getElem hi, ?_⟩
          rw [e, List.getD_eq_getElem?_getD, List.getElem?_eq_getElem hi] <;> rfl
        refine set_update_ints ((Walks.list hh3 _ l hne items).toS) s.heap.objs.size hSf ns hisz hb hval (items.size - 0) 0 _ (by omega) (Nat.zero_le _)
          ⟨⟨_, Heap.get?_push_size _ rfl, rfl, rfl⟩, (hl1.push _)⟩ ⟨0, Nat.le_refl 0, setR_new_at (Heap.get?_push_of_some _ hS)⟩ fun t3 c2 hm hc2 hS2 => ?_
        obtain ⟨h3, g3, d3, tk3, os3⟩ := t3
        obtain rfl : g3 = s.gens := hm.gens
        obtain rfl : d3 = s.drawn := hm.drawn
        obtain rfl : os3 = s.os := hm.os
        refine wpAny_pure ?_
        show wpAny _ _ (ret Value.none) _ _ _
        refine wpAny_pure ⟨rfl, h3, tk3, c2, rfl, hS2, fun b o e => ?_⟩
        have hb0 : b < s.heap.objs.size := Heap.lt_size e
        refine hm.heap b o (fun z => ?_) (Heap.get?_push_of_some _ (Heap.get?_push_of_some _ e))
        rcases List.mem_cons.mp z with z | z
        · exact absurd z (Nat.ne_of_lt hb0)
        · have z2 := List.mem_singleton.mp z
          rw [z2, hz] at hb0
          exact absurd hb0 (Nat.not_lt.mpr (Nat.le_succ _))
      · cases r2 with
        | error e => exact hr2
        | ok fl2 =>
          cases fl2 with
          | ret r =>
            obtain ⟨rfl, h', tk, c', rfl, hS', hk'⟩ := hr2
            repeat (any_goals (first | assumption | wp_step))
            exact h _ _ _ hS' hk'
          | _ => exact hr2.elim
    | _ => exact hr.elim
end
end PD
end

section
set_option Elab.async false
set_option linter.all false
set_option maxRecDepth 100000
set_option maxHeartbeats 1000000
namespace PD
open PySem PySem.Spec PyProof.Rows L2

/-! ### the ascending unlike ints of a list -/
theorem isort_perm (xs : List Int) : (isort xs).Perm xs := List.mergeSort_perm ..
theorem isort_le (xs : List Int) : (isort xs).Pairwise (· ≤ ·) := by
  have h := List.pairwise_mergeSort (le := fun a b : Int => decide (a ≤ b)) (fun a b c h1 h2 => by simp only [decide_eq_true_eq] at *; omega) (fun a b => by simp only [Bool.or_eq_true, decide_eq_true_eq]; omega) xs
  exact h.imp fun q => by simpa using q
theorem uniq_mem (k : Int) : ∀ l : List Int, k ∈ uniq l ↔ k ∈ l
  | [] => by simp [uniq]
  | x :: r => by
    have ih := uniq_mem k r
    unfold uniq
    cases e : uniq r with
    | nil =>
      rw [e] at ih
      simp only [List.mem_cons, List.not_mem_nil, or_false]
      constructor
      · intro h; exact .inl h
      · intro h; rcases h with h | h
        · exact h
        · exact absurd (ih.mpr h) List.not_mem_nil
    | cons y t =>
      rw [e] at ih
      by_cases h : x = y
      · subst h
        simp only [if_true]
        rw [ih, List.mem_cons]
        constructor
        · intro h; exact .inr h
        · intro h; rcases h with h | h
          · exact ih.mp (by rw [h]; exact List.mem_cons_self)
          · exact h
      · simp only [if_neg h]
        rw [List.mem_cons, ih, List.mem_cons]
theorem uniq_lt : ∀ l : List Int, l.Pairwise (· ≤ ·) → (uniq l).Pairwise (· < ·)
  | [], _ => by simp [uniq]
  | x :: r, h => by
    have ih := uniq_lt r (List.pairwise_cons.mp h).2
    have hx := (List.pairwise_cons.mp h).1
    unfold uniq
    cases e : uniq r with
    | nil => simp
    | cons y t =>
      rw [e] at ih
      by_cases q : x = y
      · simp only [if_pos q]
        exact ih
      · simp only [if_neg q]
        have hy : x ≤ y := hx y ((uniq_mem y r).mp (by rw [e]; exact List.mem_cons_self))
        refine List.pairwise_cons.mpr ⟨fun z hz => ?_, ih⟩
        rcases List.mem_cons.mp hz with hz | hz
        · omega
        · have := (List.pairwise_cons.mp ih).1 z hz
          omega
theorem sset_lt (xs : List Int) : (sset xs).Pairwise (· < ·) := uniq_lt _ (isort_le xs)
theorem sset_mem (xs : List Int) (k : Int) : k ∈ sset xs ↔ k ∈ xs := by
  unfold sset
  rw [uniq_mem, (isort_perm xs).mem_iff]
theorem nodup_lt {l : List Int} (h : l.Pairwise (· < ·)) : l.Nodup := h.imp fun q => by omega
/-- two ascending lists of the same ints are one -/
theorem asc_unique : ∀ l m : List Int, l.Pairwise (· < ·) → m.Pairwise (· < ·) → (∀ k, k ∈ l ↔ k ∈ m) → l = m
  | [], [], _, _, _ => rfl
  | [], y :: m, _, _, h => absurd ((h y).mpr List.mem_cons_self) List.not_mem_nil
  | x :: l, [], _, _, h => absurd ((h x).mp List.mem_cons_self) List.not_mem_nil
  | x :: l, y :: m, h1, h2, h => by
    obtain ⟨a1, a2⟩ := List.pairwise_cons.mp h1
    obtain ⟨b1, b2⟩ := List.pairwise_cons.mp h2
    have e : x = y := by
      rcases List.mem_cons.mp ((h x).mp List.mem_cons_self) with q | q
      · exact q
      · rcases List.mem_cons.mp ((h y).mpr List.mem_cons_self) with z | z
        · exact z.symm
        · have := a1 y z
          have := b1 x q
          omega
    subst e
    rw [asc_unique l m a2 b2 fun k => ?_]
    constructor
    · intro hk
      rcases List.mem_cons.mp ((h k).mp (List.mem_cons_of_mem _ hk)) with q | q
      · have := a1 k hk
        omega
      · exact q
    · intro hk
      rcases List.mem_cons.mp ((h k).mpr (List.mem_cons_of_mem _ hk)) with q | q
      · have := b1 k hk
        omega
      · exact q
theorem setR_card {w : World} {h : Heap} {a : Addr} {ns : List Int} {c : Nat} (R : SetR w h a (fun j => decide (j ∈ ns)) c) : c = (sset ns).length := by
  obtain ⟨o, es, ep, t, _, _, _, _, nd, hm, _, _, hn, _⟩ := R
  have p : (es.toList.map keyOf).Perm (sset ns) := (List.perm_ext_iff_of_nodup nd (nodup_lt (sset_lt ns))).mpr fun k => by
    rw [← hm k, sset_mem]
    simp
  have := p.length_eq
  rw [List.length_map, Array.length_toList] at this
  omega

/-- a set of the ints ns -/
def rSetI (K : PySem.W.Frag) (w : World) : List V → Hp → VK → Prop := fun xs H Q => ∃ (p : Addr) (ns : List Int), xs = [.ref p] ∧ (SqL K H p (ns.map V.int) ∨ SqT K H p (ns.map V.int)) ∧ ns.length + 1 < 4096 ∧
  ∀ a, H a = none → Q (.ref a) (upd H a (SetO w a (fun j => decide (j ∈ ns)) (sset ns).length))
section
variable {X : Cx}
theorem cr_setI (hc : X.calm = true) : CallR X (.type "set") (rSetI X.K X.w) := by
  intro pins s σ H xs us Q I r h
  obtain ⟨p, ns, rfl, hq, hb, q⟩ := h
  obtain ⟨u, rfl, rx⟩ := vals1 r
  cases rx
  have hb' : ns.length + 1 < scanBound := hb
  have fin : ∀ (h' : Heap) (tk c : Nat), SetR X.w h' s.heap.objs.size (fun j => decide (j ∈ ns)) c → (∀ b o, s.heap.get? b = some o → h'.get? b = some o) → EP X pins σ Q (.ref s.heap.objs.size) { s with heap := h', toks := tk } := fun h' tk c R k => by
    obtain rfl := setR_card R
    exact ⟨.ref s.heap.objs.size, _, I.laid (t' := tk) k (Nat.le_refl _) (setO_new R), rfl, q _ I.fresh⟩
  rcases hq with hq | hq
  · obtain ⟨its, rv, pl, _⟩ := I.list hq
    exact set_lstI ns (I.ok.hd hc) pl.isList (by simpa using rv.ints) hb' fin
  · obtain ⟨its, rv, pl, _⟩ := I.tuple hq
    exact call_set_tupI ns (I.ok.hd hc) pl (by simpa using rv.ints) hb' fun h' tk c R _ k => fin h' tk c R k
end


end PD
end

section
set_option Elab.async false
set_option linter.all false
set_option maxRecDepth 100000
set_option maxHeartbeats 1000000
/-! PD: places of things in lists and tuples. -/
namespace PD
open PySem PySem.Spec PyProof.Rows L2
section
variable {X : Cx}
/-- x.index(y): the first place of an equal one -/
def rIdx (K : PySem.W.Frag) (tup : Bool) : V → List V → Hp → VK → Prop := fun x xs H Q => ∃ (a : Addr) (y : V) (d : D) (ds : List D) (vs : List V) (j : Nat), x = V.ref a ∧ xs = [y] ∧ (if tup = true then SqT K H a vs else SqL K H a vs) ∧ Reps K H ds vs ∧ Rep K H d y ∧
  min (PyData.depthAll ds) d.depth ≤ 60 ∧ idxD ds d = some j ∧ Q (.int (j : Nat)) H
theorem idx_items {pins : List (Addr × Obj)} {σ : L2.St} {H : Hp} {s : Shared} {its : List Value} {ds : List D} {vs : List V} {d : D} {y : V} {u : Value} (hu : X.A.units + 64 < cLine) (I : Inv X pins σ H s) (rv : Vals vs its) (h1 : Reps X.K H ds vs)
    (h2 : Rep X.K H d y) (ry : RelV y u) (hm : min (PyData.depthAll ds) d.depth ≤ 60) : SeqAt.ItemsEq X.A.in1 s its (ds.map fun z => eqD z d) u true := by
  obtain ⟨bs, r1⟩ := I_plain I h2 ry
  obtain ⟨as, r2⟩ := Dp.readsAll I ds vs its (Reps.dp ds vs h1) rv
  have hp := Reps.plain ds vs h1
  have hmap := SeqAt.readsAll_map_plain ds its as hp r2
  have hpd := Rep.plain d y h2
  refine ⟨by rw [List.length_map, ← rv.length, Reps.length ds vs h1], fun j h1 h2 => ?_⟩
  have q := SeqAt.items_plain (A := X.A) (vs := its.toArray) (show ReadsAll s.heap its.toArray.toList ds as by simpa using r2) r1 hp hpd (by omega) its[j] (by simp)
  have hj : j < ds.length := by rw [List.length_map] at h2; exact h2
  have e : SeqAt.readOf s.heap its[j] = ds[j] := by
    have e1 : (its.map (SeqAt.readOf s.heap))[j]? = ds[j]? := by rw [hmap]
    rw [List.getElem?_map, List.getElem?_eq_getElem h1, List.getElem?_eq_getElem hj] at e1
    exact Option.some.inj e1
  rw [e] at q
  have e2 : decide ((ds.map fun z => eqD z d)[j] = true) = PyData.eqv ds[j] d := by
    rw [List.getElem_map]
    unfold eqD
    simp
  rw [e2]
  exact q
theorem idx_some {ds : List D} {d : D} {j : Nat} (h : idxD ds d = some j) : true ∈ ds.map (fun z => eqD z d) ∧ j = (ds.map fun z => eqD z d).idxOf true := by
  unfold idxD at h
  split at h
  · rename_i h1
    exact ⟨h1, (Option.some.inj h).symm⟩
  · cases h
theorem mt_idxL (hu : X.A.units + 64 < cLine) : MtR X "list.index" (rIdx X.K false) := by
  intro pins s σ H x xs v us Q I rx rxs h
  obtain ⟨a, y, d, ds, vs, j, rfl, rfl, hs, h1, h2, hm, hj, q⟩ := h
  have hs : SqL X.K H a vs := hs
  cases rx
  cases rxs with
  | cons ry rt =>
    cases rt
    obtain ⟨its, rv, hl, hz⟩ := I.list hs
    obtain ⟨m1, rfl⟩ := idx_some hj
    exact SeqAt.call_list_index hl.isList (idx_items hu I rv h1 h2 ry hm) (by rw [List.length_map, ← Reps.length ds vs h1]; exact hz) m1 ⟨.int _, H, I.tok _, ⟨_, rfl⟩, q⟩
theorem mt_idxT (hu : X.A.units + 64 < cLine) : MtR X "tuple.index" (rIdx X.K true) := by
  intro pins s σ H x xs v us Q I rx rxs h
  obtain ⟨a, y, d, ds, vs, j, rfl, rfl, hs, h1, h2, hm, hj, q⟩ := h
  have hs : SqT X.K H a vs := hs
  cases rx
  cases rxs with
  | cons ry rt =>
    cases rt
    obtain ⟨its, rv, hl, hz⟩ := I.tuple hs
    obtain ⟨m1, rfl⟩ := idx_some hj
    exact SeqAt.call_tuple_index hl (idx_items hu I rv h1 h2 ry hm) m1 ⟨.int _, H, I.tok _, ⟨_, rfl⟩, q⟩
/-- a method of a tuple that is known to have no dict -/
def tBMT (K : PySem.W.Frag) (r : V → List V → Hp → VK → Prop) (to : TE) (t : TA) : TE := fun σ H Q => to σ H fun x H1 => (∃ a vs, x = .ref a ∧ TupF K H1 a vs) ∧ t σ H1 fun xs H2 => r x xs H2 Q
theorem tupF_is {pins : List (Addr × Obj)} {σ : L2.St} {H : Hp} {s : Shared} {a : Addr} {vs : List V} (I : Inv X pins σ H s) (h : TupF X.K H a vs) : ∃ ob, s.heap.get? a = some ob ∧ ob.cls = .type "tuple" ∧ ob.dict = none := by
  rcases h with ⟨o, h, hc, hd⟩ | ⟨o, its, n, h, hc, hd, _⟩
  · obtain ⟨e, _⟩ := I.hok a _ h
    exact ⟨o, e, hc, hd⟩
  · exact ⟨o, I.kIn a o h, hc, hd⟩
variable {o e : Expr} {es : List Expr} {to : TE} {t : TA} {name : Str} {apos cpos : Pos} {id : String} {r : V → List V → Hp → VK → Prop}
theorem pe_bmT (pa : PlainAttrs "tuple") (slot : Slot "tuple" name id) (hty : typeOf (.builtin id) = pure (.type "method_descriptor")) (hm : MtR X id r) (ho : PE X o to) (ha : PA X (e :: es) t)
    (hbase : attributeBase o name X.env (eval o X.env) = eval o X.env := by rfl)
    (hfew : ((backTo cpos (starEach (e :: es) X.env)).all (fun x => !x.1) && (backToKw cpos (keywordEach [] X.env)).all (fun x => x.1.isSome)
      && decide ((e :: es).length + ([] : List Keyword).length + (if ([] : List Keyword).isEmpty then 0 else 1) < 30)) = true := by rfl)
    (hline : (apos.endLine == cpos.line) = true := by rfl) (hs : starEach (e :: es) X.env = (false, eval e X.env) :: starEach es X.env := by rfl) (hplain : (backTo cpos (starEach es X.env)).any (·.1) = false := by rfl) :
    PE X (.Call (.Attribute o name apos) (e :: es) [] cpos) (tBMT X.K r to t) := by
  refine ⟨fun pins s σ H Q I h => ?_⟩
  refine wpAny_Call_method_late hbase hfew hline rfl (thn (ho.run pins s σ H _ I h) fun v s1 ⟨x, H1, I1, r1, ty, q1⟩ => ?_)
  obtain ⟨a, vs, rfl, ht⟩ := ty
  obtain ⟨ob, h1, h2, h3⟩ := tupF_is I1 ht
  cases r1
  refine ⟨"tuple", id, pa, slot, hty, ⟨ob, h1, h2⟩, fun b e => ?_, ?_⟩
  · cases e
    exact ⟨ob, h1, h3⟩
  have hA := ha.run cpos pins s1 σ H1 _ I1 q1
  rw [hs] at hA ⊢
  refine Calls.callWith_builtin (by show (false || (backTo cpos (starEach es X.env)).any (·.1)) = false; rw [hplain] <;> rfl) (Calls.evalArgs_plain ?_)
  exact thn hA fun us s2 ⟨vs, H2, I2, r2, q2⟩ => hm pins s2 σ H2 (.ref a) vs (.ref a) us Q I2 rfl r2 q2
end
end PD
end

section
set_option Elab.async false
set_option linter.all false
set_option maxRecDepth 100000
set_option maxHeartbeats 1000000
/-! PD: the readings of operations do what the evaluator says. -/
namespace PD
open PySem PySem.Spec PyProof.Rows L2

/-- a two-place reading does what f says -/
def Op2S (K : PySem.W.Frag) (r : R2) (f : O → O → Option O) : Prop := ∀ Fz H x y a b o, Same Fz H → RepR K Fz H a x → RepR K Fz H b y → f a b = some o → ∀ Q : VK, (∀ v H', NewV K Fz H o v H' → Q v H') → r x y H Q
def OpNS (K : PySem.W.Frag) (r : List V → Hp → VK → Prop) (f : List O → Option O) : Prop := ∀ Fz H xs os o, Same Fz H → Paired (RepR K Fz H) os xs → f os = some o → ∀ Q : VK, (∀ v H', NewV K Fz H o v H' → Q v H') → r xs H Q

section
variable {K : PySem.W.Frag} {Fz H : Hp}
theorem NewV.int {i : Int} (sub : Same Fz H) : NewV K Fz H (oInt i) (.int i) H := NewV.data sub (by unfold Rep; rfl)
theorem NewV.bl {i : Bool} (sub : Same Fz H) : NewV K Fz H (oBl i) (.bl i) H := NewV.data sub (by unfold Rep; rfl)
theorem guardB_some {α : Type} {b : Bool} {x : Option α} {y : α} (h : guardB b x = some y) : b = true ∧ x = some y := by
  unfold guardB at h
  by_cases q : b = true
  · rw [if_pos q] at h; exact ⟨q, h⟩
  · rw [if_neg q] at h; cases h

theorem op_int {g : Int → Int → V} {C : Int → Int → Prop} {F : O → O → Option O} (hF : ∀ a b o, F a b = some o → ∃ i j, asInt a = some i ∧ asInt b = some j ∧ C i j ∧ ∃ d, o = .d d ∧ ∀ H : Hp, Rep K H d (g i j)) : Op2S K (rI C g) F := by
  intro Fz H x y a b o sub ra rb e Q q
  obtain ⟨i, j, h1, h2, hc, d, rfl, hd⟩ := hF a b o e
  rw [ra.int h1, rb.int h2]
  exact ⟨i, j, rfl, rfl, hc, q _ _ (NewV.data sub (hd _))⟩
theorem op_int0 {g : Int → Int → V} {F : O → O → Option O} (hF : ∀ a b o, F a b = some o → ∃ i j, asInt a = some i ∧ asInt b = some j ∧ ∃ d, o = .d d ∧ ∀ H : Hp, Rep K H d (g i j)) : Op2S K (rI0 g) F := by
  intro Fz H x y a b o sub ra rb e Q q
  obtain ⟨i, j, h1, h2, d, rfl, hd⟩ := hF a b o e
  rw [ra.int h1, rb.int h2]
  exact ⟨i, j, rfl, rfl, q _ _ (NewV.data sub (hd _))⟩
theorem ints2 {f : Int → Int → Option O} {a b : O} {o : O} (e : (match asInt a, asInt b with
    | some i, some j => f i j
    | _, _ => none) = some o) : ∃ i j, asInt a = some i ∧ asInt b = some j ∧ f i j = some o := by
  cases h1 : asInt a with
  | none => rw [h1] at e; cases e
  | some i =>
    cases h2 : asInt b with
    | none => rw [h1, h2] at e; cases e
    | some j => rw [h1, h2] at e; exact ⟨i, j, rfl, rfl, e⟩

theorem asList_int {a : O} {i : Int} (h : asInt a = some i) : asList a = none ∧ asTup a = none := by
  cases a with
  | d x =>
    cases x with
    | int j => exact ⟨rfl, rfl⟩
    | _ => cases h
  | lst os => cases h
theorem os_add : Op2S K (rAddA K) opAdd := by
  intro Fz H x y a b o sub ra rb e Q q
  unfold opAdd at e
  cases h1 : asInt a with
  | some i =>
    cases h2 : asInt b with
    | some j =>
      rw [h1, h2] at e
      have e : some (oInt (i + j)) = some o := e
      cases e
      rw [ra.int h1, rb.int h2]
      exact .inl ⟨i, j, rfl, rfl, q _ _ (NewV.int sub)⟩
    | none =>
      rw [h1, h2] at e
      simp only [(asList_int h1).1, (asList_int h1).2] at e
      cases e
  | none =>
    rw [h1] at e
    simp only at e
    cases h3 : asList a with
    | some xs =>
      cases h4 : asList b with
      | some ys =>
        rw [h3, h4] at e
        simp only at e
        obtain ⟨g1, e⟩ := guardB_some e
        cases e
        obtain ⟨p, vs, rfl, s1, r1⟩ := ra.list sub h3
        obtain ⟨p2, ws, rfl, s2, r2⟩ := rb.list sub h4
        have l1 := Reps.length _ _ r1
        have l2 := Reps.length _ _ r2
        have g1 := of_decide_eq_true g1
        exact .inr (.inl ⟨p, p2, vs, ws, rfl, rfl, s1, s2, by omega, fun c hc => q _ _ (NewV.lst sub (Reps.append _ _ _ _ r1 r2) hc)⟩)
      | none =>
        rw [h3, h4] at e
        simp only at e
        cases h5 : asTup a with
        | none => rw [h5] at e; cases e
        | some zs =>
          cases a with
          | d z =>
            cases z with
            | tuple _ => cases h3
            | _ => cases h5
          | lst _ => cases h5
    | none =>
      rw [h3] at e
      simp only at e
      cases h5 : asTup a with
      | none => rw [h5] at e; cases e
      | some xs =>
        cases h6 : asTup b with
        | none => rw [h5, h6] at e; cases e
        | some ys =>
          rw [h5, h6] at e
          simp only at e
          obtain ⟨g1, e⟩ := guardB_some e
          cases e
          obtain ⟨p, vs, rfl, s1, r1⟩ := ra.tup sub h5
          obtain ⟨p2, ws, rfl, s2, r2⟩ := rb.tup sub h6
          have l1 := Reps.length _ _ r1
          have l2 := Reps.length _ _ r2
          have g1 := of_decide_eq_true g1
          refine .inr (.inr ⟨p, p2, vs, ws, rfl, rfl, (s1.mono sub).sqT, (s2.mono sub).sqT, by omega, fun z => ?_, fun z z2 => ?_, fun z z2 c ob hc hcl hd => q _ _ (NewV.tup sub (Reps.append _ _ _ _ r1 r2) hc hcl hd)⟩)
          · subst z
            have : xs = [] := List.length_eq_zero_iff.mp (by rw [← l1]; rfl)
            subst this
            refine q _ _ (NewV.data sub ?_)
            show Rep K Fz (.tuple ys) (.ref p2)
            unfold Rep
            exact ⟨p2, ws, rfl, s2, r2⟩
          · subst z2
            have : ys = [] := List.length_eq_zero_iff.mp (by rw [← l2]; rfl)
            subst this
            refine q _ _ (NewV.data sub ?_)
            rw [List.append_nil]
            show Rep K Fz (.tuple xs) (.ref p)
            unfold Rep
            exact ⟨p, vs, rfl, s1, r1⟩
theorem bigB_ok {i : Int} (h : bigB i = true) : -(2 ^ 64) < i ∧ i < 2 ^ 64 := by
  unfold bigB at h
  simp only [Bool.and_eq_true, decide_eq_true_eq] at h
  exact h
theorem os_mul : Op2S K (rMulA K) opMul := by
  intro Fz H x y a b o sub ra rb e Q q
  unfold opMul at e
  cases h2 : asInt b with
  | none =>
    rw [h2] at e
    cases h1 : asInt a with
    | none =>
      rw [h1] at e
      cases h3 : asList a with
      | none => rw [h3] at e; cases e
      | some xs => rw [h3] at e; cases e
    | some i =>
      rw [h1] at e
      simp only [(asList_int h1).1] at e
      cases e
  | some j =>
    cases h1 : asInt a with
    | some i =>
      rw [h1, h2] at e
      simp only at e
      obtain ⟨g1, e⟩ := guardB_some e
      cases e
      rw [ra.int h1, rb.int h2]
      refine .inl ⟨i, j, rfl, rfl, ?_, q _ _ (NewV.int sub)⟩
      rcases Bool.or_eq_true_iff.mp g1 with z | z
      · exact .inl (bigB_ok z)
      · exact .inr (bigB_ok z)
    | none =>
      rw [h1, h2] at e
      simp only at e
      cases h3 : asList a with
      | none => rw [h3] at e; cases e
      | some xs =>
        rw [h3] at e
        simp only at e
        obtain ⟨g1, e⟩ := guardB_some e
        cases e
        obtain ⟨p, vs, rfl, s1, r1⟩ := ra.list sub h3
        have l1 := Reps.length _ _ r1
        simp only [Bool.and_eq_true, decide_eq_true_eq] at g1
        rw [rb.int h2]
        exact .inr ⟨p, j, vs, rfl, rfl, s1, g1.1.1, g1.1.2, by rw [l1]; exact g1.2, fun c hc => q _ _ (NewV.lst sub (Reps.replicate r1 _) hc)⟩
theorem os_eq (neg : Bool) : Op2S K (rEqP K neg) (fun a b => guardB (dep2 a.toD b.toD) (some (oBl (if neg then !eqD a.toD b.toD else eqD a.toD b.toD)))) := by
  intro Fz H x y a b o sub ra rb e Q q
  obtain ⟨g1, e⟩ := guardB_some e
  cases e
  exact ⟨a.toD, b.toD, ra.data sub, rb.data sub, of_decide_eq_true g1, q _ _ (NewV.bl sub)⟩
theorem os_in (neg : Bool) : Op2S K (rInP K neg) (fun a b => match asSeq b with
    | some xs => guardB (depI xs a.toD) (some (oBl (if neg then !(xs.any fun z => eqD z a.toD) else xs.any fun z => eqD z a.toD)))
    | none => none) := by
  intro Fz H x y a b o sub ra rb e Q q
  dsimp only at e
  cases h : asSeq b with
  | none => rw [h] at e; cases e
  | some xs =>
    rw [h] at e
    obtain ⟨g1, e⟩ := guardB_some e
    cases e
    obtain ⟨p, vs, rfl, s1, r1⟩ := rb.seq sub h
    have r2 := Reps.mono sub _ _ r1
    refine ⟨a.toD, xs, ra.data sub, ?_, Reps.plain _ _ r2, of_decide_eq_true g1, q _ _ (NewV.bl sub)⟩
    rcases s1 with s1 | s1
    · exact .inl (.lst s1 (Reps.dp _ _ r2))
    · exact .inr (.tup s1 (Reps.dp _ _ r2))
theorem atI_rep {xs : List D} {vs : List V} {i : Int} {d : D} (r : Reps K Fz xs vs) (h : atI xs i = some d) : ∃ v, atI vs i = some v ∧ Rep K Fz d v := by
  unfold atI at h ⊢
  rw [Reps.length _ _ r]
  cases e : ixN xs.length i with
  | none => rw [e] at h; cases h
  | some j =>
    rw [e] at h
    exact Reps.get xs vs j d r h
theorem os_ix : Op2S K (rIxA K) (fun a b => match asSeq a, asInt b with
    | some xs, some i => (atI xs i).map .d
    | _, _ => none) := by
  intro Fz H x y a b o sub ra rb e Q q
  dsimp only at e
  cases h : asSeq a with
  | none => rw [h] at e; cases e
  | some xs =>
    cases h2 : asInt b with
    | none => rw [h, h2] at e; cases e
    | some i =>
      rw [h, h2] at e
      simp only at e
      cases h3 : atI xs i with
      | none => rw [h3] at e; cases e
      | some d =>
        rw [h3] at e
        cases e
        obtain ⟨p, vs, rfl, s1, r1⟩ := ra.seq sub h
        obtain ⟨v, h4, h5⟩ := atI_rep r1 h3
        rw [rb.int h2]
        rcases s1 with s1 | s1
        · exact .inl ⟨p, vs, i, v, rfl, rfl, s1, h4, q _ _ (NewV.data sub h5)⟩
        · exact .inr ⟨p, vs, i, v, rfl, rfl, s1, h4, q _ _ (NewV.data sub h5)⟩
theorem isN_of {a : O} {x : V} (ra : RepR K Fz H a x) : decide (x = V.non) = isNo a := by
  obtain ⟨B, ra⟩ := ra
  cases a with
  | d z =>
    unfold RepO at ra
    have r := ra.2
    cases z with
    | none => unfold Rep at r; rw [r]; simp [isNo]
    | bool _ => unfold Rep at r; rw [r]; simp [isNo]
    | int _ => unfold Rep at r; rw [r]; simp [isNo]
    | str _ => unfold Rep at r; rw [r]; simp [isNo]
    | list _ => unfold Rep at r; obtain ⟨_, _, r, _⟩ := r; rw [r]; simp [isNo]
    | tuple _ => unfold Rep at r; obtain ⟨_, _, r, _⟩ := r; rw [r]; simp [isNo]
    | dict _ => unfold Rep at r; exact r.elim
  | lst os =>
    unfold RepO at ra
    obtain ⟨_, _, _, r, _⟩ := ra
    rw [r]
    simp [isNo]
def rIsN' (neg : Bool) : R2 := fun x y H Q => y = .non ∧ Q (.bl (if neg then !decide (x = .non) else decide (x = .non))) H
theorem isNone_of {b : O} {y : V} (rb : RepR K Fz H b y) (h : b = .d .none) : y = .non := by
  obtain ⟨B, rb⟩ := rb
  rw [h] at rb
  unfold RepO at rb
  have r := rb.2
  unfold Rep at r
  exact r
end

/-! ### the table of two-place operations -/
def isCmp : Op2 → Bool
  | .eq | .ne | .lt | .le | .gt | .ge | .isin | .notin | .isN | .notN => true
  | _ => false
def r2 (K : PySem.W.Frag) : Op2 → R2
  | .add => rAddA K
  | .sub => rI0 fun i j => .int (i - j)
  | .mul => rMulA K
  | .fdiv => rI CDivN fun i j => .int (i.fdiv j)
  | .mod => rI (fun _ j => j ≠ 0) fun i j => .int (i.fmod j)
  | .pow => rI CPow fun i j => .int (i ^ j.toNat)
  | .eq => rEqP K false
  | .ne => rEqP K true
  | .lt => rI0 fun i j => .bl (decide (i < j))
  | .le => rI0 fun i j => .bl (decide (i ≤ j))
  | .gt => rI0 fun i j => .bl (decide (j < i))
  | .ge => rI0 fun i j => .bl (decide (j ≤ i))
  | .isin => rInP K false
  | .notin => rInP K true
  | .isN => rIsN' false
  | .notN => rIsN' true
  | .ix => rIxA K
theorem op_isN' {X : Cx} : OpR X (compareOp .Is) (rIsN' false) := op_isN
theorem op_notN' {X : Cx} : OpR X (compareOp .IsNot) (rIsN' true) := op_notN
theorem os_isN (K : PySem.W.Frag) (neg : Bool) : Op2S K (rIsN' neg) (fun a b => match b with
    | .d .none => some (oBl (if neg then !isNo a else isNo a))
    | _ => none) := by
  intro Fz H x y a b o sub ra rb e Q q
  dsimp only at e
  split at e
  · cases e
    refine ⟨isNone_of rb rfl, q _ _ ?_⟩
    rw [isN_of ra]
    exact NewV.bl sub
  · cases e
theorem rep_int {K : PySem.W.Frag} (i : Int) : ∃ d, oInt i = O.d d ∧ ∀ H : Hp, Rep K H d (V.int i) := ⟨_, rfl, fun H => by unfold Rep; rfl⟩
theorem rep_bl {K : PySem.W.Frag} (i : Bool) : ∃ d, oBl i = O.d d ∧ ∀ H : Hp, Rep K H d (V.bl i) := ⟨_, rfl, fun H => by unfold Rep; rfl⟩
theorem os_cmp {K : PySem.W.Frag} (f : Int → Int → Bool) : Op2S K (rI0 fun i j => .bl (f i j)) (opCmp f) := op_int0 fun a b o e => by
  obtain ⟨i, j, h1, h2, e⟩ := ints2 e
  cases e
  exact ⟨i, j, h1, h2, rep_bl _⟩
theorem os_r2 (K : PySem.W.Frag) : ∀ o, Op2S K (r2 K o) (op2f o)
  | .add => os_add
  | .sub => op_int0 fun a b o e => by
    obtain ⟨i, j, h1, h2, e⟩ := ints2 e
    cases e
    exact ⟨i, j, h1, h2, rep_int _⟩
  | .mul => os_mul
  | .fdiv => op_int fun a b o e => by
    obtain ⟨i, j, h1, h2, e⟩ := ints2 e
    obtain ⟨g, e⟩ := guardB_some e
    cases e
    simp only [Bool.and_eq_true, decide_eq_true_eq] at g
    exact ⟨i, j, h1, h2, g, rep_int _⟩
  | .mod => op_int fun a b o e => by
    obtain ⟨i, j, h1, h2, e⟩ := ints2 e
    obtain ⟨g, e⟩ := guardB_some e
    cases e
    exact ⟨i, j, h1, h2, of_decide_eq_true g, rep_int _⟩
  | .pow => op_int fun a b o e => by
    obtain ⟨i, j, h1, h2, e⟩ := ints2 e
    obtain ⟨g, e⟩ := guardB_some e
    cases e
    simp only [Bool.and_eq_true, decide_eq_true_eq] at g
    exact ⟨i, j, h1, h2, ⟨g.1.1, g.1.2, g.2⟩, rep_int _⟩
  | .eq => os_eq false
  | .ne => os_eq true
  | .lt => os_cmp _
  | .le => os_cmp _
  | .gt => os_cmp _
  | .ge => os_cmp _
  | .isin => os_in false
  | .notin => os_in true
  | .isN => os_isN K false
  | .notN => os_isN K true
  | .ix => os_ix
/-- a comparison tells a truth value -/
theorem cmp_bool : ∀ (o : Op2) (a b z : O), isCmp o = true → op2f o a b = some z → ∃ k, z = oBl k
  | .eq, a, b, z, _, e => by obtain ⟨_, e⟩ := guardB_some e; cases e; exact ⟨_, rfl⟩
  | .ne, a, b, z, _, e => by obtain ⟨_, e⟩ := guardB_some e; cases e; exact ⟨_, rfl⟩
  | .lt, a, b, z, _, e => by obtain ⟨i, j, h1, h2, e⟩ := ints2 e; cases e; exact ⟨_, rfl⟩
  | .le, a, b, z, _, e => by obtain ⟨i, j, h1, h2, e⟩ := ints2 e; cases e; exact ⟨_, rfl⟩
  | .gt, a, b, z, _, e => by obtain ⟨i, j, h1, h2, e⟩ := ints2 e; cases e; exact ⟨_, rfl⟩
  | .ge, a, b, z, _, e => by obtain ⟨i, j, h1, h2, e⟩ := ints2 e; cases e; exact ⟨_, rfl⟩
  | .isin, a, b, z, _, e => by
    simp only [op2f] at e
    split at e
    · obtain ⟨_, e⟩ := guardB_some e; cases e; exact ⟨_, rfl⟩
    · cases e
  | .notin, a, b, z, _, e => by
    simp only [op2f] at e
    split at e
    · obtain ⟨_, e⟩ := guardB_some e; cases e; exact ⟨_, rfl⟩
    · cases e
  | .isN, a, b, z, _, e => by
    simp only [op2f] at e
    split at e
    · cases e; exact ⟨_, rfl⟩
    · cases e
  | .notN, a, b, z, _, e => by
    simp only [op2f] at e
    split at e
    · cases e; exact ⟨_, rfl⟩
    · cases e
  | .add, _, _, _, h, _ => by cases h
  | .sub, _, _, _, h, _ => by cases h
  | .mul, _, _, _, h, _ => by cases h
  | .fdiv, _, _, _, h, _ => by cases h
  | .mod, _, _, _, h, _ => by cases h
  | .pow, _, _, _, h, _ => by cases h
  | .ix, _, _, _, h, _ => by cases h
theorem bool_v {K : PySem.W.Frag} {Fz : Hp} {k : Bool} {v : V} (h : Rep K Fz (.bool k) v) : v = .bl k := by
  unfold Rep at h
  exact h

/-! ### built-in functions -/
def rFn (K : PySem.W.Frag) : Fn → List V → Hp → VK → Prop
  | .len => rLenA K
  | .abs => fun xs H Q => ∃ i, xs = [.int i] ∧ Q (.int (if i < 0 then -i else i)) H
  | .int => fun xs H Q => (∃ i, xs = [.int i] ∧ Q (.int i) H) ∨ ∃ k, xs = [.bl k] ∧ Q (.int (if k then 1 else 0)) H
  | .list => rLstA K
  | .tuple => rTupA K
  | .sorted => rSortD K
  | .sum => rSum K
  | .max => rMax K
  | .min => rMin K
  | .all => rAll K
  | .any => rAny K
  | .max2 => fun xs H Q => ∃ i j, xs = [.int i, .int j] ∧ Q (.int (if j > i then j else i)) H
  | .min2 => fun xs H Q => ∃ i j, xs = [.int i, .int j] ∧ Q (.int (if j < i then j else i)) H
  | .max0 => fun xs H Q => ∃ (a : Addr) (ns : List Int), xs = [.ref a] ∧ SqL K H a (ns.map V.int) ∧ Q (.int ((maxI ns).getD 0)) H
  | .revT => fun xs H Q => ∃ (a : Addr) (vs : List V), xs = [.ref a] ∧ SqT K H a vs ∧ newT vs.reverse H Q
  | .evn => fun xs H Q => ∃ (a : Addr) (vs : List V), xs = [.ref a] ∧ SqT K H a vs ∧ newT (evens vs) H Q
  | _ => fun _ _ _ => False
def rMax0 : List V → Hp → VK → Prop := fun _ _ _ => False
section
variable {K : PySem.W.Frag} {Fz H : Hp}
theorem P1 {R : O → V → Prop} {a : O} {xs : List V} (h : Paired R [a] xs) : ∃ x, xs = [x] ∧ R a x := by
  cases h with
  | cons r t => cases t; exact ⟨_, rfl, r⟩
theorem P2 {R : O → V → Prop} {a b : O} {xs : List V} (h : Paired R [a, b] xs) : ∃ x y, xs = [x, y] ∧ R a x ∧ R b y := by
  cases h with
  | cons r t =>
    cases t with
    | cons r' t' => cases t'; exact ⟨_, _, rfl, r, r'⟩

theorem asList_not_tup {a : O} {xs : List D} (h : asTup a = some xs) : asList a = none := by
  cases a with
  | d x =>
    cases x with
    | tuple _ => rfl
    | _ => cases h
  | lst os => cases h
theorem on_len : OpNS K (rFn K .len) (fnf .len) := by
  intro Fz H xs os o sub r e Q q
  match os, e, r with
  | [a], e, r =>
    obtain ⟨x, rfl, ra⟩ := P1 r
    simp only [fnf] at e
    cases h : asSeq a with
    | some ys =>
      rw [h] at e
      cases e
      obtain ⟨p, vs, rfl, s1, r1⟩ := ra.seq sub h
      exact .inl ⟨p, vs, rfl, s1, by rw [Reps.length _ _ r1]; exact q _ _ (NewV.int sub)⟩
    | none =>
      rw [h] at e
      simp only at e
      cases h2 : asStr a with
      | none => rw [h2] at e; cases e
      | some z =>
        rw [h2] at e
        obtain ⟨g, e⟩ := guardB_some e
        cases e
        rw [ra.str h2]
        exact .inr ⟨z, rfl, of_decide_eq_true g, q _ _ (NewV.int sub)⟩
  | [], e, _ => cases e
  | _ :: _ :: _, e, _ => cases e
theorem on_abs : OpNS K (rFn K .abs) (fnf .abs) := by
  intro Fz H xs os o sub r e Q q
  match os, e, r with
  | [a], e, r =>
    obtain ⟨x, rfl, ra⟩ := P1 r
    simp only [fnf] at e
    cases h : asInt a with
    | none => rw [h] at e; cases e
    | some i =>
      rw [h] at e
      cases e
      rw [ra.int h]
      exact ⟨i, rfl, q _ _ (NewV.int sub)⟩
  | [], e, _ => cases e
  | _ :: _ :: _, e, _ => cases e
theorem on_int : OpNS K (rFn K .int) (fnf .int) := by
  intro Fz H xs os o sub r e Q q
  match os, e, r with
  | [a], e, r =>
    obtain ⟨x, rfl, ra⟩ := P1 r
    simp only [fnf] at e
    split at e
    · cases e
      rw [ra.int rfl]
      exact .inl ⟨_, rfl, q _ _ (NewV.int sub)⟩
    · cases e
      have hb := ra.data sub
      unfold O.toD at hb
      rw [bool_v hb]
      exact .inr ⟨_, rfl, q _ _ (NewV.int sub)⟩
    · cases e
  | [], e, _ => cases e
  | _ :: _ :: _, e, _ => cases e
theorem on_list : OpNS K (rFn K .list) (fnf .list) := by
  intro Fz H xs os o sub r e Q q
  match os, e, r with
  | [a], e, r =>
    obtain ⟨x, rfl, ra⟩ := P1 r
    simp only [fnf] at e
    cases h : asSeq a with
    | none => rw [h] at e; cases e
    | some ys =>
      rw [h] at e
      cases e
      obtain ⟨p, vs, rfl, s1, r1⟩ := ra.seq sub h
      exact ⟨p, vs, rfl, s1, fun c hc => q _ _ (NewV.lst sub r1 hc)⟩
  | [], e, _ => cases e
  | _ :: _ :: _, e, _ => cases e
theorem tup_same {a : O} {x : V} {ys : List D} (sub : Same Fz H) (ra : RepR K Fz H a x) (h : asTup a = some ys) : NewV K Fz H (.d (.tuple ys)) x H := by
  obtain ⟨p, vs, rfl, s1, r1⟩ := ra.tup sub h
  refine NewV.data sub ?_
  unfold Rep
  exact ⟨p, vs, rfl, s1, r1⟩
theorem on_tuple : OpNS K (rFn K .tuple) (fnf .tuple) := by
  intro Fz H xs os o sub r e Q q
  match os, e, r with
  | [a], e, r =>
    obtain ⟨x, rfl, ra⟩ := P1 r
    simp only [fnf] at e
    cases h : asList a with
    | some ys =>
      rw [h] at e
      cases e
      obtain ⟨p, vs, rfl, s1, r1⟩ := ra.list sub h
      exact ⟨p, vs, rfl, .inl ⟨s1, fun c ob hc hcl hd => q _ _ (NewV.tup sub r1 hc hcl hd)⟩⟩
    | none =>
      rw [h] at e
      simp only at e
      cases h2 : asTup a with
      | none => rw [h2] at e; cases e
      | some ys =>
        rw [h2] at e
        cases e
        have n := tup_same sub ra h2
        obtain ⟨p, vs, rfl, s1, r1⟩ := ra.tup sub h2
        exact ⟨p, vs, rfl, .inr ⟨(s1.mono sub).sqT, q _ _ n⟩⟩
  | [], e, _ => cases e
  | _ :: _ :: _, e, _ => cases e
theorem reps_zip : ∀ (xs : List D) (vs : List V), Reps K Fz xs vs → (vs.zip xs).map Prod.fst = vs ∧ (vs.zip xs).map Prod.snd = xs ∧ ∀ b ∈ vs.zip xs, Rep K Fz b.2 b.1
  | [], vs, h => by
    unfold Reps at h
    rw [h]
    exact ⟨rfl, rfl, fun b hb => absurd hb List.not_mem_nil⟩
  | d :: ds, vs, h => by
    unfold Reps at h
    obtain ⟨v, r, e, h1, h2⟩ := h
    rw [e]
    obtain ⟨a1, a2, a3⟩ := reps_zip ds r h2
    refine ⟨?_, ?_, fun b hb => ?_⟩
    · rw [List.zip_cons_cons, List.map_cons, a1]
    · rw [List.zip_cons_cons, List.map_cons, a2]
    · rw [List.zip_cons_cons] at hb
      rcases List.mem_cons.mp hb with q | q
      · rw [q]; exact h1
      · exact a3 b q
theorem on_sorted : OpNS K (rFn K .sorted) (fnf .sorted) := by
  intro Fz H xs os o sub r e Q q
  match os, e, r with
  | [a], e, r =>
    obtain ⟨x, rfl, ra⟩ := P1 r
    simp only [fnf] at e
    cases h : asList a with
    | none => rw [h] at e; cases e
    | some ys =>
      rw [h] at e
      obtain ⟨g, e⟩ := guardB_some e
      cases e
      obtain ⟨p, vs, rfl, s1, r1⟩ := ra.list sub h
      obtain ⟨a1, a2, a3⟩ := reps_zip ys vs r1
      refine ⟨p, vs.zip ys, rfl, by rw [a1]; exact s1, fun b hb => Rep.mono sub _ _ (a3 b hb), by rw [a2]; exact g, fun c hc => q _ _ ?_⟩
      have e1 : ((vs.zip ys).mergeSort (PySem.W.dataLe false Prod.snd)).map Prod.snd = dsort ys := by
        unfold dsort
        conv => rhs; rw [← a2]
        exact PySem.W.sort_maps Prod.snd fun a _ b _ => rfl
      rw [← e1]
      refine NewV.lst sub ?_ hc
      have gen : ∀ l : List (V × D), (∀ b ∈ l, Rep K Fz b.2 b.1) → Reps K Fz (l.map Prod.snd) (l.map Prod.fst) := by
        intro l
        induction l with
        | nil => intro _; exact Reps.nil
        | cons b l ih => intro hl; exact Reps.cons (hl b List.mem_cons_self) (ih fun c hc => hl c (List.mem_cons_of_mem _ hc))
      exact gen _ fun b hb => a3 b (List.mem_mergeSort.mp hb)
  | [], e, _ => cases e
  | _ :: _ :: _, e, _ => cases e
theorem list_ints {a : O} {x : V} {ys : List D} {ns : List Int} (sub : Same Fz H) (ra : RepR K Fz H a x) (h : asList a = some ys) (h2 : isInts ys = some ns) : ∃ p, x = .ref p ∧ SqL K H p (ns.map V.int) := by
  obtain ⟨p, vs, rfl, s1, r1⟩ := ra.list sub h
  rw [(Reps.ints ys ns vs h2 r1).1] at s1
  exact ⟨p, rfl, s1⟩
theorem on_sum : OpNS K (rFn K .sum) (fnf .sum) := by
  intro Fz H xs os o sub r e Q q
  match os, e, r with
  | [a], e, r =>
    obtain ⟨x, rfl, ra⟩ := P1 r
    simp only [fnf] at e
    cases h : asList a with
    | none => rw [h] at e; cases e
    | some ys =>
      rw [h] at e
      simp only at e
      cases h2 : isInts ys with
      | none => rw [h2] at e; cases e
      | some ns =>
        rw [h2] at e
        cases e
        obtain ⟨p, rfl, s1⟩ := list_ints sub ra h h2
        exact ⟨p, ns, rfl, s1, q _ _ (NewV.int sub)⟩
  | [], e, _ => cases e
  | _ :: _ :: _, e, _ => cases e
theorem foldl_max (xs : List Int) : ∀ m : Int, (m ≤ xs.foldl (fun m y => if y > m then y else m) m) ∧ (∀ y ∈ xs, y ≤ xs.foldl (fun m y => if y > m then y else m) m) ∧ (xs.foldl (fun m y => if y > m then y else m) m = m ∨ xs.foldl (fun m y => if y > m then y else m) m ∈ xs) := by
  induction xs with
  | nil => intro m; exact ⟨by simp, by simp, .inl rfl⟩
  | cons x xs ih =>
    intro m
    rw [List.foldl_cons]
    have ht : (m ≤ (if x > m then x else m)) ∧ (x ≤ (if x > m then x else m)) ∧ ((if x > m then x else m) = m ∨ (if x > m then x else m) = x) := by
      split <;> omega
    obtain ⟨a1, a2, a3⟩ := ih (if x > m then x else m)
    generalize (if x > m then x else m) = t at ht a1 a2 a3
    obtain ⟨t1, t2, t3⟩ := ht
    refine ⟨by omega, fun y hy => ?_, ?_⟩
    · rcases List.mem_cons.mp hy with e | e
      · subst e
        omega
      · exact a2 y e
    · rcases a3 with e | e
      · rw [e]
        rcases t3 with e | e
        · exact .inl e
        · rw [e]
          exact .inr List.mem_cons_self
      · exact .inr (List.mem_cons_of_mem _ e)
theorem foldl_min (xs : List Int) : ∀ m : Int, (xs.foldl (fun m y => if y < m then y else m) m ≤ m) ∧ (∀ y ∈ xs, xs.foldl (fun m y => if y < m then y else m) m ≤ y) ∧ (xs.foldl (fun m y => if y < m then y else m) m = m ∨ xs.foldl (fun m y => if y < m then y else m) m ∈ xs) := by
  induction xs with
  | nil => intro m; exact ⟨by simp, by simp, .inl rfl⟩
  | cons x xs ih =>
    intro m
    rw [List.foldl_cons]
    have ht : (m ≥ (if x < m then x else m)) ∧ (x ≥ (if x < m then x else m)) ∧ ((if x < m then x else m) = m ∨ (if x < m then x else m) = x) := by
      split <;> omega
    obtain ⟨a1, a2, a3⟩ := ih (if x < m then x else m)
    generalize (if x < m then x else m) = t at ht a1 a2 a3
    obtain ⟨t1, t2, t3⟩ := ht
    refine ⟨by omega, fun y hy => ?_, ?_⟩
    · rcases List.mem_cons.mp hy with e | e
      · subst e
        omega
      · exact a2 y e
    · rcases a3 with e | e
      · rw [e]
        rcases t3 with e | e
        · exact .inl e
        · rw [e]
          exact .inr List.mem_cons_self
      · exact .inr (List.mem_cons_of_mem _ e)
theorem maxI_spec {ns : List Int} {m : Int} (h : maxI ns = some m) : m ∈ ns ∧ ∀ y ∈ ns, y ≤ m := by
  cases ns with
  | nil => cases h
  | cons x xs =>
    have h : some (xs.foldl (fun m y => if y > m then y else m) x) = some m := h
    have h := Option.some.inj h
    obtain ⟨a1, a2, a3⟩ := foldl_max xs x
    rw [h] at a1 a2 a3
    refine ⟨?_, fun y hy => ?_⟩
    · rcases a3 with e | e
      · rw [e]; exact List.mem_cons_self
      · exact List.mem_cons_of_mem _ e
    · rcases List.mem_cons.mp hy with e | e
      · rw [e]; exact a1
      · exact a2 y e
theorem minI_spec {ns : List Int} {m : Int} (h : minI ns = some m) : m ∈ ns ∧ ∀ y ∈ ns, m ≤ y := by
  cases ns with
  | nil => cases h
  | cons x xs =>
    have h : some (xs.foldl (fun m y => if y < m then y else m) x) = some m := h
    have h := Option.some.inj h
    obtain ⟨a1, a2, a3⟩ := foldl_min xs x
    rw [h] at a1 a2 a3
    refine ⟨?_, fun y hy => ?_⟩
    · rcases a3 with e | e
      · rw [e]; exact List.mem_cons_self
      · exact List.mem_cons_of_mem _ e
    · rcases List.mem_cons.mp hy with e | e
      · rw [e]; exact a1
      · exact a2 y e
theorem on_max : OpNS K (rFn K .max) (fnf .max) := by
  intro Fz H xs os o sub r e Q q
  match os, e, r with
  | [a], e, r =>
    obtain ⟨x, rfl, ra⟩ := P1 r
    simp only [fnf] at e
    cases h : asList a with
    | none => rw [h] at e; cases e
    | some ys =>
      rw [h] at e
      simp only at e
      cases h2 : isInts ys with
      | none => rw [h2] at e; cases e
      | some ns =>
        rw [h2] at e
        simp only at e
        cases h3 : maxI ns with
        | none => rw [h3] at e; cases e
        | some m =>
          rw [h3] at e
          cases e
          obtain ⟨p, rfl, s1⟩ := list_ints sub ra h h2
          obtain ⟨b1, b2⟩ := maxI_spec h3
          refine ⟨p, ns, rfl, s1, List.length_pos_of_mem b1, fun m' hm hy => ?_⟩
          have : m' = m := by
            have := b2 m' hm
            have := hy m b1
            omega
          rw [this]
          exact q _ _ (NewV.int sub)
  | [], e, _ => cases e
  | _ :: _ :: _, e, _ => cases e
theorem on_max0 : OpNS K (rFn K .max0) (fnf .max0) := by
  intro Fz H xs os o sub r e Q q
  match os, e, r with
  | [a], e, r =>
    obtain ⟨x, rfl, ra⟩ := P1 r
    simp only [fnf] at e
    cases h : asList a with
    | none => rw [h] at e; cases e
    | some ys =>
      rw [h] at e
      simp only at e
      cases h2 : isInts ys with
      | none => rw [h2] at e; cases e
      | some ns =>
        rw [h2] at e
        cases e
        obtain ⟨p, rfl, s1⟩ := list_ints sub ra h h2
        exact ⟨p, ns, rfl, s1, q _ _ (NewV.int sub)⟩
  | [], e, _ => cases e
  | _ :: _ :: _, e, _ => cases e
theorem Reps.evens : ∀ (ds : List D) (vs : List V), Reps K Fz ds vs → Reps K Fz (PD.evens ds) (PD.evens vs)
  | [], vs, h => by
    unfold Reps at h
    subst h
    unfold PD.evens Reps
    rfl
  | [d], vs, h => by
    unfold Reps at h
    obtain ⟨v, r, rfl, h1, h2⟩ := h
    unfold Reps at h2
    subst h2
    unfold PD.evens
    unfold Reps
    exact ⟨v, [], rfl, h1, by unfold Reps; rfl⟩
  | d :: d2 :: ds, vs, h => by
    unfold Reps at h
    obtain ⟨v, r, rfl, h1, h2⟩ := h
    unfold Reps at h2
    obtain ⟨v2, r2, rfl, h3, h4⟩ := h2
    unfold PD.evens
    unfold Reps
    exact ⟨v, _, rfl, h1, Reps.evens ds r2 h4⟩
theorem on_revT : OpNS K (rFn K .revT) (fnf .revT) := by
  intro Fz H xs os o sub r e Q q
  match os, e, r with
  | [a], e, r =>
    obtain ⟨x, rfl, ra⟩ := P1 r
    simp only [fnf] at e
    cases h2 : asTup a with
    | none => rw [h2] at e; cases e
    | some ys =>
      rw [h2] at e
      cases e
      obtain ⟨p, vs, rfl, s1, r1⟩ := ra.tup sub h2
      exact ⟨p, vs, rfl, (s1.mono sub).sqT, fun c ob hc hcl hd => q _ _ (NewV.tup sub (Reps.reverse _ _ r1) hc hcl hd)⟩
  | [], e, _ => cases e
  | _ :: _ :: _, e, _ => cases e
theorem on_evn : OpNS K (rFn K .evn) (fnf .evn) := by
  intro Fz H xs os o sub r e Q q
  match os, e, r with
  | [a], e, r =>
    obtain ⟨x, rfl, ra⟩ := P1 r
    simp only [fnf] at e
    cases h2 : asTup a with
    | none => rw [h2] at e; cases e
    | some ys =>
      rw [h2] at e
      cases e
      obtain ⟨p, vs, rfl, s1, r1⟩ := ra.tup sub h2
      exact ⟨p, vs, rfl, (s1.mono sub).sqT, fun c ob hc hcl hd => q _ _ (NewV.tup sub (Reps.evens _ _ r1) hc hcl hd)⟩
  | [], e, _ => cases e
  | _ :: _ :: _, e, _ => cases e
theorem on_min : OpNS K (rFn K .min) (fnf .min) := by
  intro Fz H xs os o sub r e Q q
  match os, e, r with
  | [a], e, r =>
    obtain ⟨x, rfl, ra⟩ := P1 r
    simp only [fnf] at e
    cases h : asList a with
    | none => rw [h] at e; cases e
    | some ys =>
      rw [h] at e
      simp only at e
      cases h2 : isInts ys with
      | none => rw [h2] at e; cases e
      | some ns =>
        rw [h2] at e
        simp only at e
        cases h3 : minI ns with
        | none => rw [h3] at e; cases e
        | some m =>
          rw [h3] at e
          cases e
          obtain ⟨p, rfl, s1⟩ := list_ints sub ra h h2
          obtain ⟨b1, b2⟩ := minI_spec h3
          refine ⟨p, ns, rfl, s1, List.length_pos_of_mem b1, fun m' hm hy => ?_⟩
          have : m' = m := by
            have := b2 m' hm
            have := hy m b1
            omega
          rw [this]
          exact q _ _ (NewV.int sub)
  | [], e, _ => cases e
  | _ :: _ :: _, e, _ => cases e
theorem on_all : OpNS K (rFn K .all) (fnf .all) := by
  intro Fz H xs os o sub r e Q q
  match os, e, r with
  | [a], e, r =>
    obtain ⟨x, rfl, ra⟩ := P1 r
    simp only [fnf] at e
    cases h : asList a with
    | none => rw [h] at e; cases e
    | some ys =>
      rw [h] at e
      simp only at e
      cases h2 : isBools ys with
      | none => rw [h2] at e; cases e
      | some ns =>
        rw [h2] at e
        cases e
        obtain ⟨p, vs, rfl, s1, r1⟩ := ra.list sub h
        rw [Reps.bools ys ns vs h2 r1] at s1
        exact ⟨p, ns, rfl, s1, q _ _ (NewV.bl sub)⟩
  | [], e, _ => cases e
  | _ :: _ :: _, e, _ => cases e
theorem on_any : OpNS K (rFn K .any) (fnf .any) := by
  intro Fz H xs os o sub r e Q q
  match os, e, r with
  | [a], e, r =>
    obtain ⟨x, rfl, ra⟩ := P1 r
    simp only [fnf] at e
    cases h : asList a with
    | none => rw [h] at e; cases e
    | some ys =>
      rw [h] at e
      simp only at e
      cases h2 : isBools ys with
      | none => rw [h2] at e; cases e
      | some ns =>
        rw [h2] at e
        cases e
        obtain ⟨p, vs, rfl, s1, r1⟩ := ra.list sub h
        rw [Reps.bools ys ns vs h2 r1] at s1
        exact ⟨p, ns, rfl, s1, q _ _ (NewV.bl sub)⟩
  | [], e, _ => cases e
  | _ :: _ :: _, e, _ => cases e
theorem on_max2 : OpNS K (rFn K .max2) (fnf .max2) := by
  intro Fz H xs os o sub r e Q q
  match os, e, r with
  | [a, b], e, r =>
    obtain ⟨x, y, rfl, ra, rb⟩ := P2 r
    obtain ⟨i, j, h1, h2, e⟩ := ints2 (f := fun i j => some (oInt (if j > i then j else i))) e
    cases e
    rw [ra.int h1, rb.int h2]
    exact ⟨i, j, rfl, q _ _ (NewV.int sub)⟩
  | [], e, _ => cases e
  | [_], e, _ => cases e
  | _ :: _ :: _ :: _, e, _ => cases e
theorem on_min2 : OpNS K (rFn K .min2) (fnf .min2) := by
  intro Fz H xs os o sub r e Q q
  match os, e, r with
  | [a, b], e, r =>
    obtain ⟨x, y, rfl, ra, rb⟩ := P2 r
    obtain ⟨i, j, h1, h2, e⟩ := ints2 (f := fun i j => some (oInt (if j < i then j else i))) e
    cases e
    rw [ra.int h1, rb.int h2]
    exact ⟨i, j, rfl, q _ _ (NewV.int sub)⟩
  | [], e, _ => cases e
  | [_], e, _ => cases e
  | _ :: _ :: _ :: _, e, _ => cases e
/-- sorted(set(x)) by the two readings -/
def rSset (K : PySem.W.Frag) (w : World) : List V → Hp → VK → Prop := fun xs H Q => rSetI K w xs H fun v H1 => rSortedSet w [v] H1 Q
theorem on_sset (w : World) : OpNS K (rSset K w) (fnf .sset) := by
  intro Fz H xs os o sub r e Q q
  match os, e, r with
  | [a], e, r =>
    obtain ⟨x, rfl, ra⟩ := P1 r
    simp only [fnf] at e
    cases h : asSeq a with
    | none => rw [h] at e; cases e
    | some ys =>
      rw [h] at e
      simp only at e
      cases h2 : isInts ys with
      | none => rw [h2] at e; cases e
      | some ns =>
        rw [h2] at e
        simp only at e
        obtain ⟨g, e⟩ := guardB_some e
        cases e
        simp only [Bool.and_eq_true, decide_eq_true_eq] at g
        obtain ⟨p, vs, rfl, s1, r1⟩ := ra.seq sub h
        rw [(Reps.ints ys ns vs h2 r1).1] at s1
        refine ⟨p, ns, rfl, s1, g.1, fun c hc => ⟨c, _, _, rfl, upd_same, g.2, fun ms l hl hm _ hn => ?_⟩⟩
        have e1 : ms = sset ns := asc_unique ms (sset ns) hl (sset_lt ns) fun k => by
          rw [hm k, sset_mem]
          simp
        subst e1
        have hcl : H l = none := by
          by_cases z : l = c
          · rw [z]; exact hc
          · rw [upd_ne z] at hn; exact hn
        have hlc : l ≠ c := fun z => by rw [z, upd_same] at hn; cases hn
        refine q _ _ ?_
        obtain ⟨F', B, b1, b2, b3, b4, b5, b6, b7⟩ := NewV.lst (K := K) (Fz := Fz) (H := upd H c (SetO w c (fun j => decide (j ∈ ns)) (sset ns).length)) (p := l) (sub.trans (Same.upd hc)) (Reps.of_ints (sset ns)) hn
        refine ⟨F', B, b1, b2, (Same.upd hc).trans b3, fun a ha => ?_, b5, b6, fun b hb => ⟨?_, (b7 b hb).2⟩⟩
        · rcases b4 a ha with z | z
          · exact .inl z
          · by_cases z2 : a = c
            · rw [z2]; exact .inr hc
            · rw [upd_ne z2] at z; exact .inr z
        · have z := (b7 b hb).1
          by_cases z2 : b = c
          · rw [z2]; exact hc
          · rw [upd_ne z2] at z; exact z
  | [], e, _ => cases e
  | _ :: _ :: _, e, _ => cases e
/-- the functions that are read one by one -/
def fnOk : Fn → Bool
  | .sset => false
  | _ => true
theorem on_fn (K : PySem.W.Frag) : ∀ f, fnOk f = true → OpNS K (rFn K f) (fnf f)
  | .len, _ => on_len
  | .abs, _ => on_abs
  | .int, _ => on_int
  | .list, _ => on_list
  | .tuple, _ => on_tuple
  | .sorted, _ => on_sorted
  | .sum, _ => on_sum
  | .max, _ => on_max
  | .min, _ => on_min
  | .all, _ => on_all
  | .any, _ => on_any
  | .max2, _ => on_max2
  | .min2, _ => on_min2
  | .sset, h => by cases h
  | .max0, _ => on_max0
  | .revT, _ => on_revT
  | .evn, _ => on_evn
  | .index, _ => by
    intro Fz H xs os o sub r e Q q
    match os, e with
    | [], e => cases e
    | [_], e => cases e
    | _ :: _ :: _, e => cases e
end
end PD
end

section
set_option Elab.async false
set_option linter.all false
set_option maxRecDepth 100000
/-! PD: the reading of an IR term. -/
namespace PD
open PySem PySem.Spec PyProof.Rows L2

structure Cfg where
  K : PySem.W.Frag
  w : World
  sp : Nat → Sp

def tyName : Ty → String
  | .int => "int"
  | .bool => "bool"
  | .str => "str"
  | .list => "list"
  | .tuple => "tuple"
  | .none => "NoneType"
def trTys : List Ty → TA
  | [] => tNil
  | t :: ts => tCons (tC (.ty (tyName t))) (trTys ts)
def gAll : List Nat → TGs
  | [] => gNil
  | i :: is => gCons (gName i) (gAll is)
def trTg (K : PySem.W.Frag) : Tg → TG
  | .name i => gName i
  | .tup is => gTup K is.length (gAll is)

structure T2 where
  v : TE
  t : TT
def tTru (K : PySem.W.Frag) (t : TE) : TT := fun σ H Q => t σ H fun x H' => ∃ k, TruV K x H' k ∧ Q k H'
def T2.of (K : PySem.W.Frag) (v : TE) : T2 := ⟨v, tTru K v⟩
def iSeqA (K : PySem.W.Frag) (t : TE) : TI := fun σ H R => iList K t σ H R ∨ iTup K t σ H R
/-- new tuples with a known object -/
def tTupF (t : TA) : TE := fun σ H Q => t σ H fun xs H1 => xs.length ≤ sizeLine ∧ newT xs H1 Q
/-- enumerate over a list or a tuple -/
def IteA (K : PySem.W.Frag) (a : Addr) : It :=
  ⟨fun i H => ∃ (xs : List V) (x : V), SqT K H a xs ∧ xs[i]? = some x, fun i H v H' => ∃ T x, v = .ref T ∧ H T = none ∧ H' = upd H T (.tup [.int (i : Nat), x]) ∧ ∀ xs, SqT K H a xs → xs[i]? = some x, fun i H => ∃ xs : List V, SqT K H a xs ∧ xs.length = i⟩
def iEnumA (K : PySem.W.Frag) (ta : TA) : TI := fun σ H R => ta σ H fun vs H1 => ∃ a xs, vs = [.ref a] ∧ ((SqL K H1 a xs ∧ R (Ite K a) H1) ∨ (SqT K H1 a xs ∧ R (IteA K a) H1))

def tIfT (t ta tb : TT) : TT := fun σ H Q => t σ H fun c H1 => if c = true then ta σ H1 Q else tb σ H1 Q
def trFn (c : Cfg) (f : Fn) (t : TA) : TE :=
  match f with
  | .sset => tCB (rSortedSet c.w) (tCons (tCB (rSetI c.K c.w) t) tNil)
  | f => tCB (rFn c.K f) t
def trOp2 (c : Cfg) (o : Op2) (a b : TE) : T2 := ⟨tOp (r2 c.K o) a b, if isCmp o = true then tTest (tOp (r2 c.K o) a b) else tTru c.K (tOp (r2 c.K o) a b)⟩

mutual
def tr (c : Cfg) : IE → T2
  | .var i => T2.of c.K (tVar i)
  | .cint k => T2.of c.K (tC (.int k))
  | .cbl b => T2.of c.K (tC (.bl b))
  | .cnon => T2.of c.K (tC .non)
  | .cstr s => T2.of c.K (tC (.str s))
  | .op2 o a b => trOp2 c o (tr c a).v (tr c b).v
  | .op1 .neg a => T2.of c.K (tUn (rU fun i => .int (-i)) (tr c a).v)
  | .fn f es => T2.of c.K (trFn c f (trA c es))
  | .chain o o' a b d => ⟨tChain (r2 c.K o) (r2 c.K o') (tr c a).v (tr c b).v (tr c d).v, if isCmp o' = true then tTest (tChain (r2 c.K o) (r2 c.K o') (tr c a).v (tr c b).v (tr c d).v) else tTru c.K (tChain (r2 c.K o) (r2 c.K o') (tr c a).v (tr c b).v (tr c d).v)⟩
  | .and a b => ⟨tAndT c.K (tr c a).v (tr c b).v, tAnd (tr c a).t (tr c b).t⟩
  | .or a b => ⟨tOrT c.K (tr c a).v (tr c b).v, tOr (tr c a).t (tr c b).t⟩
  | .not a => ⟨tNotT c.K (tr c a).v, tNot (tr c a).t⟩
  | .ite d a b => ⟨tIf (tr c d).t (tr c a).v (tr c b).v, tIfT (tr c d).t (tr c a).t (tr c b).t⟩
  | .tup es => T2.of c.K (tTupF (trA c es))
  | .lst es => T2.of c.K (tLst (trA c es))
  | .slc a lo hi => T2.of c.K (tSl (rSlA c.K) (tr c a).v (trO c lo) (trO c hi))
  | .rev a => T2.of c.K (tRevL c.K (tr c a).v)
  | .lrng1 a => T2.of c.K (tLstRg (tRg1 (tr c a).v))
  | .lrng2 a b => T2.of c.K (tLstRg (tRg2 (tr c a).v (tr c b).v))
  | .call f es => T2.of c.K (tCall (c.sp f) [] E0 (trA c es))
  | .idx tup a b => T2.of c.K (if tup = true then tBMT c.K (rIdx c.K true) (tr c a).v (tCons (tr c b).v tNil) else tBM c.K "list" (rIdx c.K false) (tr c a).v (tCons (tr c b).v tNil))
  | .isi a t => T2.of c.K (tCB (rIsi c.K) (tCons (tr c a).v (tCons (tC (.ty (tyName t))) tNil)))
  | .isiT a ts => T2.of c.K (tCB (rIsiT c.K) (tCons (tr c a).v (tCons (tTup (trTys ts)) tNil)))
  | .comp elt tg src cond vs => T2.of c.K (tLc (trI c src) (trTg c.K tg) (trC c cond) (tr c elt).v vs)
  | .comp2 elt tg src cond tg1 src1 cond1 vs vs1 => T2.of c.K (tLc2 (trI c src) (trTg c.K tg) (trC c cond) (trI c src1) (trTg c.K tg1) (trC c cond1) (tr c elt).v vs vs1)
def trA (c : Cfg) : List IE → TA
  | [] => tNil
  | e :: es => tCons (tr c e).v (trA c es)
def trO (c : Cfg) : Option IE → TO
  | none => tNoPart
  | some e => tPart (tr c e).v
def trC (c : Cfg) : Option IE → TT
  | none => tYes
  | some e => (tr c e).t
def trI (c : Cfg) : Src → TI
  | .seq e => iSeqA c.K (tr c e).v
  | .rng1 a => iRng1 (tCons (tr c a).v tNil)
  | .rng2 a b => iRng2 (tCons (tr c a).v (tCons (tr c b).v tNil))
  | .rng3 a b d => iRng3 (tCons (tr c a).v (tCons (tr c b).v (tCons (tr c d).v tNil)))
  | .enum e => iEnumA c.K (tCons (tr c e).v tNil)
  | .zip a b => RZ.iZipA c.K (tCons (tr c a).v (tCons (tr c b).v tNil))
end
end PD
end

section
set_option Elab.async false
set_option linter.all false
set_option maxRecDepth 100000
set_option maxHeartbeats 1000000
/-! PD: soundness, part by part. -/
namespace PD
open PySem PySem.Spec PyProof.Rows L2

section
variable (K : PySem.W.Frag)
def AfterPs (σ : L2.St) (Fz H : Hp) (F : Nat → List Addr) (env' : Env) (ps : List Opnd) (vs : List V) (H' : Hp) : Prop :=
  ∃ Fz' F', Rel K env' σ Fz' H' F' ∧ Stp Fz H (Own F) Fz' H' (Own F') ∧ Paired (RepP K Fz' σ) ps vs
def AfterDs (σ : L2.St) (Fz H : Hp) (F : Nat → List Addr) (env' : Env) (ds : List D) (vs : List V) (H' : Hp) : Prop :=
  ∃ Fz' F', Rel K env' σ Fz' H' F' ∧ Stp Fz H (Own F) Fz' H' (Own F') ∧ Reps K Fz' ds vs
def AfterVs (σ : L2.St) (Fz H : Hp) (F : Nat → List Addr) (env' : Env) (os : List O) (vs : List V) (H' : Hp) : Prop :=
  ∃ Fz' F' B, Rel K env' σ Fz' H' F' ∧ Stp Fz H (Own F) Fz' H' (fun a => Own F' a ∨ a ∈ B) ∧ RepOs K Fz' H' os vs B ∧ B.Nodup ∧ ∀ b ∈ B, ¬ Own F' b ∧ Fz' b = none
def SndV (t : TE) (f : M O) : Prop := ∀ env σ Fz H F, Rel K env σ Fz H F → ∀ o env', f env = some (o, env') → ∀ Q : VK, (∀ v H', After K σ Fz H F env' o v H' → Q v H') → t σ H Q
def SndP (t : TE) (f : M Opnd) : Prop := ∀ env σ Fz H F, Rel K env σ Fz H F → ∀ o env', f env = some (o, env') → ∀ Q : VK, (∀ v H', AfterP K σ Fz H F env' o v H' → Q v H') → t σ H Q
def SndD (t : TE) (f : M D) : Prop := ∀ env σ Fz H F, Rel K env σ Fz H F → ∀ o env', f env = some (o, env') → ∀ Q : VK, (∀ v H', AfterD K σ Fz H F env' o v H' → Q v H') → t σ H Q
def SndT (t : TT) (f : M Bool) : Prop := ∀ env σ Fz H F, Rel K env σ Fz H F → ∀ o env', f env = some (o, env') → ∀ Q : Bool → Hp → Prop, (∀ H', AfterU K σ Fz H F env' H' → Q o H') → t σ H Q
def SndI (t : TO) (f : M (Option Int)) : Prop := ∀ env σ Fz H F, Rel K env σ Fz H F → ∀ o env', f env = some (o, env') → ∀ Q : Option Int → Hp → Prop, (∀ H', AfterU K σ Fz H F env' H' → Q o H') → t σ H Q
def SndPs (t : TA) (f : M (List Opnd)) : Prop := ∀ env σ Fz H F, Rel K env σ Fz H F → ∀ o env', f env = some (o, env') → ∀ Q : List V → Hp → Prop, (∀ v H', AfterPs K σ Fz H F env' o v H' → Q v H') → t σ H Q
def SndDs (t : TA) (f : M (List D)) : Prop := ∀ env σ Fz H F, Rel K env σ Fz H F → ∀ o env', f env = some (o, env') → ∀ Q : List V → Hp → Prop, (∀ v H', AfterDs K σ Fz H F env' o v H' → Q v H') → t σ H Q
def SndVs (t : TA) (f : M (List O)) : Prop := ∀ env σ Fz H F, Rel K env σ Fz H F → ∀ o env', f env = some (o, env') → ∀ Q : List V → Hp → Prop, (∀ v H', AfterVs K σ Fz H F env' o v H' → Q v H') → t σ H Q
end

section
variable {K : PySem.W.Frag} {env env' : Env} {σ : L2.St} {Fz H Fz' H' : Hp} {F F' : Nat → List Addr} {t ta tb : TE}

theorem AfterU.trans {F1 : Nat → List Addr} {Fz1 H1 : Hp} (S : Stp Fz H (Own F) Fz1 H1 (Own F1)) (h : AfterU K σ Fz1 H1 F1 env' H') : AfterU K σ Fz H F env' H' := by
  obtain ⟨Fz2, F2, R, T⟩ := h
  exact ⟨Fz2, F2, R, S.trans T⟩
theorem AfterU.refl (R : Rel K env σ Fz H F) : AfterU K σ Fz H F env H := ⟨Fz, F, R, Stp.refl⟩
theorem After.u {o : O} {v : V} (h : After K σ Fz H F env' o v H') : AfterU K σ Fz H F env' H' := by
  obtain ⟨Fz1, F1, B, R, S, _⟩ := h
  exact ⟨Fz1, F1, R, S.mono fun a z => .inl z⟩
theorem AfterP.val {d : D} {v : V} (h : AfterD K σ Fz H F env' d v H') : AfterP K σ Fz H F env' (.val d) v H' := h
theorem NewV.after (R : Rel K env σ Fz H F) {o : O} {v : V} (h : NewV K Fz H o v H') : After K σ Fz H F env o v H' := R.new h

/-! ### from values -/
theorem snd_toP {f : M O} (h : SndV K t f) : SndP K t (toP f) := by
  intro env σ Fz H F R o env' e Q q
  unfold toP at e
  cases e1 : f env with
  | none => rw [e1] at e; cases e
  | some r =>
    obtain ⟨x, env1⟩ := r
    rw [e1] at e
    cases e
    exact h env σ Fz H F R _ _ e1 _ fun v H' a => q v H' (AfterP.val a.frz)
theorem snd_toD {f : M O} (h : SndV K t f) : SndD K t (toD1 f) := by
  intro env σ Fz H F R o env' e Q q
  unfold toD1 at e
  cases e1 : f env with
  | none => rw [e1] at e; cases e
  | some r =>
    obtain ⟨x, env1⟩ := r
    rw [e1] at e
    cases e
    exact h env σ Fz H F R _ _ e1 _ fun v H' a => q v H' a.frz
theorem rd_of {a : Addr} {xs : List V} (h : SqL K H a xs) : ∃ xs, SqL K H a xs ∧ True := ⟨xs, h, trivial⟩
theorem tru_rep {o : O} {v : V} {b : Bool} (sub : Same Fz H) (ra : RepR K Fz H o v) (h : truO o = some b) : TruV K v H b := by
  have seq : ∀ xs, asSeq o = some xs → TruV K v H (!xs.isEmpty) := fun xs e => by
    obtain ⟨a, vs, rfl, s1, r1⟩ := ra.seq sub e
    have l := Reps.length _ _ r1
    have e2 : xs.isEmpty = vs.isEmpty := by
      cases xs with
      | nil => rw [List.length_eq_zero_iff.mp l]; rfl
      | cons x xs => cases vs with
        | nil => cases l
        | cons _ _ => rfl
    rw [e2]
    rcases s1 with s1 | s1
    · exact .inl ⟨vs, s1, rfl⟩
    · exact .inr (.inl ⟨vs, s1, rfl⟩)
  cases o with
  | lst os =>
    simp only [truO] at h
    split at h
    · rename_i xs e
      cases h
      exact seq xs e
    · cases h
  | d x =>
    have rd := ra.data sub
    cases x with
    | bool c =>
      simp only [truO] at h
      cases h
      rw [bool_v rd]
      exact rfl
    | int i =>
      simp only [truO] at h
      cases h
      rw [ra.int rfl]
      show (!decide (i = 0)) = (i != 0)
      rw [bne, Bool.beq_eq_decide_eq]
    | none =>
      simp only [truO] at h
      cases h
      have rd : Rep K H .none v := rd
      unfold Rep at rd
      rw [rd]
      exact rfl
    | str s =>
      simp only [truO] at h
      cases h
    | list xs =>
      simp only [truO] at h
      cases h
      exact seq xs rfl
    | tuple xs =>
      simp only [truO] at h
      cases h
      exact seq xs rfl
    | dict _ => cases h
theorem After.tru {o : O} {v : V} {b : Bool} (h : After K σ Fz H F env' o v H') (e : truO o = some b) : TruV K v H' b := by
  obtain ⟨Fz1, F1, B, R, S, r, _⟩ := h
  exact tru_rep R.sub ⟨B, r⟩ e
theorem snd_toT {f : M O} (h : SndV K t f) : SndT K (tTru K t) (toT f) := by
  intro env σ Fz H F R o env' e Q q
  unfold toT at e
  cases e1 : f env with
  | none => rw [e1] at e; cases e
  | some r =>
    obtain ⟨x, env1⟩ := r
    rw [e1] at e
    simp only at e
    cases e2 : truO x with
    | none => rw [e2] at e; cases e
    | some b =>
      rw [e2] at e
      cases e
      exact h env σ Fz H F R _ _ e1 _ fun v H' a => ⟨_, a.tru e2, q H' a.u⟩

/-! ### names and constants -/
theorem look_set {env : Env} {i j : Nat} {x : Option O} : look (env.set i x) j = if i = j ∧ i < env.length then x else look env j := by
  unfold look
  by_cases h : i = j
  · subst h
    by_cases h2 : i < env.length
    · rw [if_pos ⟨rfl, h2⟩, List.getElem?_set_self h2]
      rfl
    · rw [if_neg fun z => h2 z.2, List.getElem?_eq_none (by simpa using h2), List.getElem?_eq_none (by simpa using h2)]
  · rw [if_neg fun z => h z.1, List.getElem?_set_ne h]
theorem look_lt {env : Env} {i : Nat} {o : O} (h : look env i = some o) : i < env.length := by
  unfold look at h
  by_cases q : i < env.length
  · exact q
  · rw [List.getElem?_eq_none (by simpa using q)] at h
    cases h
/-- a slot's own objects are frozen -/
theorem Rel.frzSlot (R : Rel K env σ Fz H F) {i : Nat} {o : O} (h : look env i = some o) : ∃ v Fz', σ[i]? = some (some v) ∧
    Rel K (env.set i (some (.d o.toD))) σ Fz' H (fun j => if j = i then [] else F j) ∧ Stp Fz H (Own F) Fz' H (Own fun j => if j = i then [] else F j) ∧ Rep K Fz' o.toD v := by
  obtain ⟨v, hv, r⟩ := R.sl i o h
  have hi := look_lt h
  have rd : Rep K (frzB Fz H (F i)) o.toD v := RepO.toD (frzB_same R.sub) o v (F i) (fun a ha u q => by rw [frzB_in ha]; exact q) r
  refine ⟨v, frzB Fz H (F i), hv, ⟨frzB_sub R.sub, by rw [List.length_set]; exact R.len, fun j x e => ?_, fun j e => ?_, fun j => ?_, fun j k a h1 h2 => ?_, fun j a ha => ?_⟩, ⟨frzB_same R.sub, fun a u q _ => q, fun a q => q, fun a z => ?_, fun a z => ?_⟩, rd⟩
  · rw [look_set] at e
    by_cases hj : i = j
    · subst hj
      rw [if_pos ⟨rfl, hi⟩] at e
      cases e
      refine ⟨v, hv, ?_⟩
      rw [if_pos rfl]
      unfold RepO
      exact ⟨rfl, rd⟩
    · rw [if_neg fun z => hj z.1] at e
      obtain ⟨w, h1, h2⟩ := R.sl j x e
      rw [if_neg (Ne.symm hj)]
      exact ⟨w, h1, RepO.frame (frzB_same R.sub) x w _ (fun a _ u q => q) h2⟩
  · rw [look_set] at e
    by_cases hj : i = j
    · subst hj
      rw [if_pos ⟨rfl, hi⟩] at e
      cases e
    · rw [if_neg fun z => hj z.1] at e
      show (if j = i then [] else F j) = []
      rw [if_neg (Ne.symm hj)]
      exact R.no j e
  · show (if j = i then [] else F j).Nodup
    split
    · exact List.nodup_nil
    · exact R.nd j
  · have h1 : a ∈ (if j = i then [] else F j) := h1
    have h2 : a ∈ (if k = i then [] else F k) := h2
    split at h1
    · exact absurd h1 List.not_mem_nil
    · split at h2
      · exact absurd h2 List.not_mem_nil
      · exact R.dj j k a h1 h2
  · have ha : a ∈ (if j = i then [] else F j) := ha
    split at ha
    · exact absurd ha List.not_mem_nil
    · rename_i hj
      rw [frzB_out fun z => hj (R.dj j i a ha z)]
      exact R.fz j a ha
  · obtain ⟨j, ha⟩ := z
    have ha : a ∈ (if j = i then [] else F j) := ha
    split at ha
    · exact absurd ha List.not_mem_nil
    · exact .inl ⟨j, ha⟩
  · by_cases q : a ∈ F i
    · exact .inr (.inr ⟨i, q⟩)
    · rw [frzB_out q] at z
      exact .inl z
theorem Rel.slotD (R : Rel K env σ Fz H F) {i : Nat} {x : D} (h : look env i = some (.d x)) : ∃ v, σ[i]? = some (some v) ∧ Rep K Fz x v := by
  obtain ⟨v, hv, r⟩ := R.sl i _ h
  unfold RepO at r
  exact ⟨v, hv, r.2⟩
theorem snd_vVar (i : Nat) : SndV K (tVar i) (vVar i) := by
  intro env σ Fz H F R o env' e Q q
  unfold vVar at e
  cases h : look env i with
  | none => rw [h] at e; cases e
  | some x =>
    rw [h] at e
    cases x with
    | d y =>
      cases e
      obtain ⟨v, hv, r⟩ := R.slotD h
      exact ⟨v, hv, q v H (AfterD.of ⟨Fz, F, R, Stp.refl, r⟩)⟩
    | lst os =>
      cases e
      obtain ⟨v, Fz', hv, R', S, r⟩ := R.frzSlot h
      exact ⟨v, hv, q v H (AfterD.of ⟨Fz', _, R', S, r⟩)⟩
theorem snd_pVar (i : Nat) : SndP K (tVar i) (pVar i) := by
  intro env σ Fz H F R o env' e Q q
  unfold pVar at e
  cases h : look env i with
  | none => rw [h] at e; cases e
  | some x =>
    rw [h] at e
    obtain ⟨v, hv, _⟩ := R.sl i x h
    have here : Q v H → tVar i σ H Q := fun z => ⟨v, hv, z⟩
    cases x with
    | d y =>
      cases e
      exact here (q v H ⟨Fz, F, R, Stp.refl, hv⟩)
    | lst os =>
      simp only at e
      split at e
      · cases e
        exact here (q v H ⟨Fz, F, R, Stp.refl, hv⟩)
      · cases e
        obtain ⟨v', Fz', hv', R', S, r⟩ := R.frzSlot h
        exact ⟨v', hv', q v' H ⟨Fz', _, R', S, r⟩⟩
theorem snd_const {x : D} {v : V} (h : ∀ G : Hp, Rep K G x v) : SndV K (tC v) (fun env => some (.d x, env)) := by
  intro env σ Fz H F R o env' e Q q
  cases e
  exact q v H (AfterD.of ⟨Fz, F, R, Stp.refl, h Fz⟩)

/-! ### operations -/
theorem snd_op2 {r : R2} {o : Op2} {a b : M Opnd} (ha : SndP K ta a) (hb : SndP K tb b) (hr : Op2S K r (op2f o)) : SndV K (tOp r ta tb) (vOp2 o a b) := by
  intro env σ Fz H F R x env' e Q q
  unfold vOp2 at e
  cases e1 : a env with
  | none => rw [e1] at e; cases e
  | some p1 =>
    obtain ⟨p, env1⟩ := p1
    rw [e1] at e
    simp only at e
    cases e2 : b env1 with
    | none => rw [e2] at e; cases e
    | some p2 =>
      obtain ⟨p', env2⟩ := p2
      rw [e2] at e
      simp only at e
      refine ha env σ Fz H F R _ _ e1 _ fun v1 H1 a1 => ?_
      obtain ⟨Fz1, F1, R1, S1, r1⟩ := a1
      refine hb env1 σ Fz1 H1 F1 R1 _ _ e2 _ fun v2 H2 a2 => ?_
      obtain ⟨Fz2, F2, R2', S2, r2⟩ := a2
      cases h1 : res env2 p with
      | none => rw [h1] at e; cases e
      | some y1 =>
        cases h2 : res env2 p' with
        | none => rw [h1, h2] at e; cases e
        | some y2 =>
          rw [h1, h2] at e
          simp only at e
          cases h3 : op2f o y1 y2 with
          | none => rw [h3] at e; cases e
          | some z =>
            rw [h3] at e
            cases e
            exact hr Fz2 H2 v1 v2 y1 y2 _ R2'.sub (R2'.res (r1.mono S2.fz) h1) (R2'.res r2 h2) h3 Q fun v H' n => q v H' (After.trans (S1.trans S2) (R2'.new n))
theorem snd_op2t {r : R2} {o : Op2} {a b : M Opnd} (ha : SndP K ta a) (hb : SndP K tb b) (hr : Op2S K r (op2f o)) (hc : isCmp o = true) : SndT K (tTest (tOp r ta tb)) (toT (vOp2 o a b)) := by
  intro env σ Fz H F R x env' e Q q
  unfold toT at e
  cases e1 : vOp2 o a b env with
  | none => rw [e1] at e; cases e
  | some p =>
    obtain ⟨z, env1⟩ := p
    rw [e1] at e
    simp only at e
    have hz : ∃ k, z = oBl k := by
      unfold vOp2 at e1
      cases e2 : a env with
      | none => rw [e2] at e1; cases e1
      | some p1 =>
        rw [e2] at e1
        simp only at e1
        cases e3 : b p1.2 with
        | none => rw [e3] at e1; cases e1
        | some p2 =>
          rw [e3] at e1
          simp only at e1
          cases h1 : res p2.2 p1.1 with
          | none => rw [h1] at e1; cases e1
          | some y1 =>
            cases h2 : res p2.2 p2.1 with
            | none => rw [h1, h2] at e1; cases e1
            | some y2 =>
              rw [h1, h2] at e1
              simp only at e1
              cases h3 : op2f o y1 y2 with
              | none => rw [h3] at e1; cases e1
              | some w =>
                rw [h3] at e1
                cases e1
                exact cmp_bool o y1 y2 z hc h3
    obtain ⟨k, rfl⟩ := hz
    have e : some (k, env1) = some (x, env') := e
    cases e
    refine snd_op2 ha hb hr env σ Fz H F R _ _ e1 _ fun v H' a => ?_
    obtain ⟨Fz1, F1, B, R1, S1, r1, _⟩ := id a
    unfold oBl RepO at r1
    exact ⟨x, bool_v r1.2, q H' a.u⟩
theorem snd_op1 {r : V → Hp → VK → Prop} {f : O → Option O} {a : M Opnd} (ha : SndP K ta a) (hr : ∀ Fz H x y o, Same Fz H → RepR K Fz H y x → f y = some o → ∀ Q : VK, (∀ v H', NewV K Fz H o v H' → Q v H') → r x H Q) : SndV K (tUn r ta) (vOp1 f a) := by
  intro env σ Fz H F R x env' e Q q
  unfold vOp1 at e
  cases e1 : a env with
  | none => rw [e1] at e; cases e
  | some p1 =>
    obtain ⟨p, env1⟩ := p1
    rw [e1] at e
    simp only at e
    refine ha env σ Fz H F R _ _ e1 _ fun v1 H1 a1 => ?_
    obtain ⟨Fz1, F1, R1, S1, r1⟩ := a1
    cases h1 : res env1 p with
    | none => rw [h1] at e; cases e
    | some y1 =>
      rw [h1] at e
      simp only at e
      cases h3 : f y1 with
      | none => rw [h3] at e; cases e
      | some z =>
        rw [h3] at e
        cases e
        exact hr Fz1 H1 v1 y1 _ R1.sub (R1.res r1 h1) h3 Q fun v H' n => q v H' (After.trans S1 (R1.new n))
theorem os_neg : ∀ Fz H x y o, Same Fz H → RepR K Fz H y x → op1f .neg y = some o → ∀ Q : VK, (∀ v H', NewV K Fz H o v H' → Q v H') → rU (fun i => V.int (-i)) x H Q := by
  intro Fz H x y o sub ra e Q q
  simp only [op1f] at e
  cases h : asInt y with
  | none => rw [h] at e; cases e
  | some i =>
    rw [h] at e
    cases e
    rw [ra.int h]
    exact ⟨i, rfl, q _ _ (NewV.int sub)⟩

/-! ### lists of things -/
theorem snd_psNil : SndPs K tNil mNil := by
  intro env σ Fz H F R x env' e Q q
  cases e
  exact q [] H ⟨Fz, F, R, Stp.refl, .nil⟩
theorem Paired.mono {α β : Type} {R S : α → β → Prop} (h : ∀ a b, R a b → S a b) : ∀ {xs : List α} {ys : List β}, Paired R xs ys → Paired S xs ys
  | _, _, .nil => .nil
  | _, _, .cons r t => .cons (h _ _ r) (Paired.mono h t)
theorem snd_psCons {ts : TA} {a : M Opnd} {as : M (List Opnd)} (ha : SndP K t a) (hs : SndPs K ts as) : SndPs K (tCons t ts) (mCons a as) := by
  intro env σ Fz H F R x env' e Q q
  unfold mCons at e
  cases e1 : a env with
  | none => rw [e1] at e; cases e
  | some p1 =>
    rw [e1] at e
    simp only at e
    cases e2 : as p1.2 with
    | none => rw [e2] at e; cases e
    | some p2 =>
      rw [e2] at e
      cases e
      refine ha env σ Fz H F R _ _ e1 _ fun v1 H1 a1 => ?_
      obtain ⟨Fz1, F1, R1, S1, r1⟩ := a1
      refine hs _ σ Fz1 H1 F1 R1 _ _ e2 _ fun vs H2 a2 => ?_
      obtain ⟨Fz2, F2, R2', S2, r2⟩ := a2
      exact q _ H2 ⟨Fz2, F2, R2', S1.trans S2, .cons (r1.mono S2.fz) r2⟩
theorem snd_dsNil : SndDs K tNil mNil := by
  intro env σ Fz H F R x env' e Q q
  cases e
  exact q [] H ⟨Fz, F, R, Stp.refl, Reps.nil⟩
theorem snd_dsCons {ts : TA} {a : M D} {as : M (List D)} (ha : SndD K t a) (hs : SndDs K ts as) : SndDs K (tCons t ts) (mCons a as) := by
  intro env σ Fz H F R x env' e Q q
  unfold mCons at e
  cases e1 : a env with
  | none => rw [e1] at e; cases e
  | some p1 =>
    rw [e1] at e
    simp only at e
    cases e2 : as p1.2 with
    | none => rw [e2] at e; cases e
    | some p2 =>
      rw [e2] at e
      cases e
      refine ha env σ Fz H F R _ _ e1 _ fun v1 H1 a1 => ?_
      obtain ⟨Fz1, F1, R1, S1, r1⟩ := a1
      refine hs _ σ Fz1 H1 F1 R1 _ _ e2 _ fun vs H2 a2 => ?_
      obtain ⟨Fz2, F2, R2', S2, r2⟩ := a2
      exact q _ H2 ⟨Fz2, F2, R2', S1.trans S2, Reps.cons (Rep.mono S2.fz _ _ r1) r2⟩
theorem snd_vsNil : SndVs K tNil mNil := by
  intro env σ Fz H F R x env' e Q q
  cases e
  refine q [] H ⟨Fz, F, [], R, Stp.refl.mono fun a z => z.elim id fun w => absurd w List.not_mem_nil, ?_, List.nodup_nil, fun b z => absurd z List.not_mem_nil⟩
  unfold RepOs
  exact ⟨rfl, rfl⟩
/-- what is held aside stays through a step -/
theorem Stp.hold {Fz1 H1 Fz2 H2 : Hp} {F1 : Nat → List Addr} {A : Addr → Prop} (S : Stp Fz1 H1 (Own F1) Fz2 H2 A) {B : List Addr} (al : ∀ b ∈ B, H1 b ≠ none) (hb : ∀ b ∈ B, ¬ Own F1 b ∧ Fz1 b = none) :
    (∀ b ∈ B, ∀ u, H1 b = some u → H2 b = some u) ∧ ∀ b ∈ B, ¬ A b ∧ Fz2 b = none := by
  refine ⟨fun b h u e => S.hp b u e (hb b h).1, fun b h => ⟨fun z => ?_, ?_⟩⟩
  · rcases S.nw b z with q | q
    · exact (hb b h).1 q
    · exact al b h q
  · cases q : Fz2 b with
    | none => rfl
    | some u =>
      rcases S.fn b (by rw [q]; exact fun z => nomatch z) with z | z | z
      · exact absurd (hb b h).2 z
      · exact absurd z (al b h)
      · exact absurd z (hb b h).1
theorem nodup_app {α : Type} {B C : List α} (hB : B.Nodup) (hC : C.Nodup) (d : ∀ a ∈ B, a ∉ C) : (B ++ C).Nodup :=
  List.nodup_append.mpr ⟨hB, hC, fun a ha b hb e => d a ha (e ▸ hb)⟩
/-- two things held, the first one through the second one's step -/
theorem hold2 {Fz1 H1 Fz2 H2 : Hp} {F1 F2 : Nat → List Addr} {o : O} {v : V} {B : List Addr} {os : List O} {vs : List V} {C : List Addr}
    (S1 : Stp Fz H (Own F) Fz1 H1 (fun a => Own F1 a ∨ a ∈ B)) (r1 : RepO K Fz1 H1 o v B) (n1 : B.Nodup) (hb : ∀ b ∈ B, ¬ Own F1 b ∧ Fz1 b = none)
    (S2 : Stp Fz1 H1 (Own F1) Fz2 H2 (fun a => Own F2 a ∨ a ∈ C)) (r2 : RepOs K Fz2 H2 os vs C) (n2 : C.Nodup) (hc : ∀ b ∈ C, ¬ Own F2 b ∧ Fz2 b = none) :
    Stp Fz H (Own F) Fz2 H2 (fun a => Own F2 a ∨ a ∈ B ++ C) ∧ RepOs K Fz2 H2 (o :: os) (v :: vs) (B ++ C) ∧ (B ++ C).Nodup ∧ ∀ b ∈ B ++ C, ¬ Own F2 b ∧ Fz2 b = none := by
  have al := RepO.alive o v B r1
  obtain ⟨k1, k2⟩ := S2.hold al hb
  have S1' := S1.mono (A2 := Own F1) fun a z => .inl z
  have T := S1'.trans S2
  refine ⟨⟨T.fz, T.hp, T.al, fun a z => ?_, T.fn⟩, ?_, nodup_app n1 n2 fun a ha hc' => (k2 a ha).1 (.inr hc'), fun b z => ?_⟩
  · rcases z with z | z
    · exact T.nw a (.inl z)
    · rcases List.mem_append.mp z with z | z
      · exact S1.nw a (.inr z)
      · exact T.nw a (.inr z)
  · unfold RepOs
    exact ⟨v, vs, B, C, rfl, rfl, RepO.frame S2.fz o v B k1 r1, r2⟩
  · rcases List.mem_append.mp z with z | z
    · exact ⟨fun q => (k2 b z).1 (.inl q), (k2 b z).2⟩
    · exact hc b z
theorem snd_vsCons {ts : TA} {a : M O} {as : M (List O)} (ha : SndV K t a) (hs : SndVs K ts as) : SndVs K (tCons t ts) (mCons a as) := by
  intro env σ Fz H F R x env' e Q q
  unfold mCons at e
  cases e1 : a env with
  | none => rw [e1] at e; cases e
  | some p1 =>
    rw [e1] at e
    simp only at e
    cases e2 : as p1.2 with
    | none => rw [e2] at e; cases e
    | some p2 =>
      rw [e2] at e
      cases e
      refine ha env σ Fz H F R _ _ e1 _ fun v1 H1 a1 => ?_
      obtain ⟨Fz1, F1, B, R1, S1, r1, n1, hb⟩ := a1
      refine hs _ σ Fz1 H1 F1 R1 _ _ e2 _ fun vs H2 a2 => ?_
      obtain ⟨Fz2, F2, C, R2', S2, r2, n2, hc⟩ := a2
      obtain ⟨T, rr, nn, hh⟩ := hold2 S1 r1 n1 hb S2 r2 n2 hc
      exact q _ H2 ⟨Fz2, F2, B ++ C, R2', T, rr, nn, hh⟩

/-! ### calls of built-in functions -/
theorem ress_rep (R : Rel K env σ Fz H F) : ∀ {ps : List Opnd} {vs : List V} {os : List O}, Paired (RepP K Fz σ) ps vs → ress env ps = some os → Paired (RepR K Fz H) os vs
  | [], _, os, r, e => by
    cases r
    have e : some [] = some os := e
    cases e
    exact .nil
  | p :: ps, _, os, r, e => by
    cases r with
    | cons r1 r2 =>
      unfold ress at e
      cases h1 : res env p with
      | none => rw [h1] at e; cases e
      | some o =>
        cases h2 : ress env ps with
        | none => rw [h1, h2] at e; cases e
        | some os' =>
          rw [h1, h2] at e
          cases e
          exact .cons (R.res r1 h1) (ress_rep R r2 h2)
theorem snd_fn {ts : TA} {r : List V → Hp → VK → Prop} {f : List O → Option O} {es : M (List Opnd)} (hs : SndPs K ts es) (hr : OpNS K r f) : SndV K (tCB r ts) (vFn f es) := by
  intro env σ Fz H F R x env' e Q q
  unfold vFn at e
  cases e1 : es env with
  | none => rw [e1] at e; cases e
  | some p1 =>
    rw [e1] at e
    simp only at e
    refine hs env σ Fz H F R _ _ e1 _ fun vs H1 a1 => ?_
    obtain ⟨Fz1, F1, R1, S1, r1⟩ := a1
    cases h1 : ress p1.2 p1.1 with
    | none => rw [h1] at e; cases e
    | some os =>
      rw [h1] at e
      simp only at e
      cases h3 : f os with
      | none => rw [h3] at e; cases e
      | some z =>
        rw [h3] at e
        cases e
        exact hr Fz1 H1 vs os _ R1.sub (ress_rep R1 r1 h1) h3 Q fun v H' n => q v H' (After.trans S1 (R1.new n))
end
end PD
end

section
set_option Elab.async false
set_option linter.all false
set_option maxRecDepth 100000
set_option maxHeartbeats 1000000
/-! PD: soundness, part by part (2). -/
namespace PD
open PySem PySem.Spec PyProof.Rows L2

section
variable {K : PySem.W.Frag} {env env' : Env} {σ : L2.St} {Fz H Fz' H' : Hp} {F F' : Nat → List Addr} {t ta tb tc : TE}

theorem After.boolU {k : Bool} {v : V} (h : After K σ Fz H F env' (.d (.bool k)) v H') : v = .bl k ∧ AfterU K σ Fz H F env' H' := by
  refine ⟨?_, h.u⟩
  obtain ⟨Fz1, F1, B, R1, S1, r1, _⟩ := h
  unfold RepO at r1
  exact bool_v r1.2
theorem After.intU {k : Int} {v : V} (h : After K σ Fz H F env' (.d (.int k)) v H') : v = .int k ∧ AfterU K σ Fz H F env' H' := by
  refine ⟨?_, h.u⟩
  obtain ⟨Fz1, F1, B, R1, S1, r1, _⟩ := h
  unfold RepO at r1
  have := r1.2
  unfold Rep at this
  exact this
theorem snd_chain {r r' : R2} {o o' : Op2} {a b c : M Opnd} (ha : SndP K ta a) (hb : SndP K tb b) (hc : SndP K tc c) (hr : Op2S K r (op2f o)) (hr' : Op2S K r' (op2f o')) : SndV K (tChain r r' ta tb tc) (vChain o o' a b c) := by
  intro env σ Fz H F R x env' e Q q
  unfold vChain at e
  split at e
  case h_2 => cases e
  rename_i p env1 e1
  split at e
  case h_2 => cases e
  rename_i p' env2 e2
  split at e
  case h_2 => cases e
  rename_i y1 y2 h1 h2
  refine ha env σ Fz H F R _ _ e1 _ fun v1 H1 a1 => ?_
  obtain ⟨Fz1, F1, R1, S1, r1⟩ := a1
  refine hb env1 σ Fz1 H1 F1 R1 _ _ e2 _ fun v2 H2 a2 => ?_
  obtain ⟨Fz2, F2, R2', S2, r2⟩ := a2
  split at e
  · rename_i h3
    refine hr Fz2 H2 v1 v2 y1 y2 _ R2'.sub (R2'.res (r1.mono S2.fz) h1) (R2'.res r2 h2) h3 _ fun v H3 n => ?_
    obtain ⟨rfl, Fz3, F3, R3, S3⟩ := (R2'.new n).boolU
    refine ⟨true, rfl, ?_⟩
    rw [if_pos rfl]
    split at e
    case h_2 => cases e
    rename_i p3 env3 e3
    refine hc env2 σ Fz3 H3 F3 R3 _ _ e3 _ fun v4 H4 a4 => ?_
    obtain ⟨Fz4, F4, R4, S4, r4⟩ := a4
    split at e
    case h_2 => cases e
    rename_i z1 z2 g1 g2
    cases h5 : op2f o' z1 z2 with
    | none => rw [h5] at e; cases e
    | some w =>
      rw [h5] at e
      cases e
      exact hr' Fz4 H4 v2 v4 z1 z2 _ R4.sub (R4.res (r2.mono (S3.fz.trans S4.fz)) g1) (R4.res r4 g2) h5 Q fun v H' n => q v H' (After.trans (S1.trans (S2.trans (S3.trans S4))) (R4.new n))
  · rename_i h3
    cases e
    refine hr Fz2 H2 v1 v2 y1 y2 _ R2'.sub (R2'.res (r1.mono S2.fz) h1) (R2'.res r2 h2) h3 _ fun v H3 n => ?_
    have an := R2'.new n
    obtain ⟨rfl, _⟩ := an.boolU
    exact ⟨false, rfl, by rw [if_neg (by decide)]; exact q _ _ (After.trans (S1.trans S2) an)⟩
  · cases e
theorem vChain_bool {o o' : Op2} {a b c : M Opnd} (ho : isCmp o' = true) {env : Env} {z : O} {env' : Env} (e : vChain o o' a b c env = some (z, env')) : ∃ k, z = oBl k := by
  unfold vChain at e
  split at e
  case h_2 => cases e
  split at e
  case h_2 => cases e
  split at e
  case h_2 => cases e
  split at e
  · split at e
    case h_2 => cases e
    split at e
    case h_2 => cases e
    rename_i z1 z2 g1 g2
    cases h5 : op2f o' z1 z2 with
    | none => rw [h5] at e; cases e
    | some w =>
      rw [h5] at e
      cases e
      exact cmp_bool o' z1 z2 z ho h5
  · cases e
    exact ⟨false, rfl⟩
  · cases e
/-- a test of a value that is a bool -/
theorem snd_test {f : M O} (h : SndV K t f) (hb : ∀ env z env', f env = some (z, env') → ∃ k, z = oBl k) : SndT K (tTest t) (toT f) := by
  intro env σ Fz H F R x env' e Q q
  unfold toT at e
  cases e1 : f env with
  | none => rw [e1] at e; cases e
  | some p =>
    obtain ⟨z, env1⟩ := p
    rw [e1] at e
    simp only at e
    obtain ⟨k, rfl⟩ := hb _ _ _ e1
    have e : some (k, env1) = some (x, env') := e
    cases e
    refine h env σ Fz H F R _ _ e1 _ fun v H' a => ?_
    obtain ⟨e2, _⟩ := id a.boolU
    exact ⟨x, e2, q H' a.u⟩

/-! ### and, or, not, if -/
theorem snd_and {a b : M O} (ha : SndV K ta a) (hb : SndV K tb b) : SndV K (tAndT K ta tb) (vAnd a b) := by
  intro env σ Fz H F R x env' e Q q
  unfold vAnd at e
  split at e
  case h_2 => cases e
  rename_i y env1 e1
  refine ha env σ Fz H F R _ _ e1 _ fun v1 H1 a1 => ?_
  split at e
  · rename_i h
    refine ⟨true, a1.tru h, ?_⟩
    rw [if_pos rfl]
    obtain ⟨Fz1, F1, R1, S1⟩ := a1.u
    exact hb env1 σ Fz1 H1 F1 R1 _ _ e _ fun v H' a => q v H' (a.trans S1)
  · rename_i h
    cases e
    refine ⟨false, a1.tru h, ?_⟩
    rw [if_neg (by decide)]
    exact q _ _ a1
  · cases e
theorem snd_or {a b : M O} (ha : SndV K ta a) (hb : SndV K tb b) : SndV K (tOrT K ta tb) (vOr a b) := by
  intro env σ Fz H F R x env' e Q q
  unfold vOr at e
  split at e
  case h_2 => cases e
  rename_i y env1 e1
  refine ha env σ Fz H F R _ _ e1 _ fun v1 H1 a1 => ?_
  split at e
  · rename_i h
    cases e
    refine ⟨true, a1.tru h, ?_⟩
    rw [if_pos rfl]
    exact q _ _ a1
  · rename_i h
    refine ⟨false, a1.tru h, ?_⟩
    rw [if_neg (by decide)]
    obtain ⟨Fz1, F1, R1, S1⟩ := a1.u
    exact hb env1 σ Fz1 H1 F1 R1 _ _ e _ fun v H' a => q v H' (a.trans S1)
  · cases e
theorem After.bl {Fz1 H1 : Hp} {F1 : Nat → List Addr} {b : Bool} (S : Stp Fz H (Own F) Fz1 H1 (Own F1)) (R : Rel K env' σ Fz1 H1 F1) : After K σ Fz H F env' (.d (.bool b)) (.bl b) H1 :=
  AfterD.of ⟨Fz1, F1, R, S, by unfold Rep; rfl⟩
theorem snd_not {a : M O} (ha : SndV K ta a) : SndV K (tNotT K ta) (vNot a) := by
  intro env σ Fz H F R x env' e Q q
  unfold vNot at e
  split at e
  case h_2 => cases e
  rename_i y env1 e1
  refine ha env σ Fz H F R _ _ e1 _ fun v1 H1 a1 => ?_
  split at e
  · rename_i b h
    cases e
    refine ⟨b, a1.tru h, ?_⟩
    obtain ⟨Fz1, F1, R1, S1⟩ := a1.u
    exact q _ _ (.bl S1 R1)
  · cases e
theorem snd_tAnd {u w : TT} {a b : M Bool} (ha : SndT K u a) (hb : SndT K w b) : SndT K (tAnd u w) (tAndM a b) := by
  intro env σ Fz H F R x env' e Q q
  unfold tAndM at e
  split at e
  · rename_i env1 e1
    refine ha env σ Fz H F R _ _ e1 _ fun H1 a1 => ?_
    rw [if_pos rfl]
    obtain ⟨Fz1, F1, R1, S1⟩ := a1
    exact hb env1 σ Fz1 H1 F1 R1 _ _ e _ fun H' a => q H' (a.trans S1)
  · rename_i env1 e1
    cases e
    refine ha env σ Fz H F R _ _ e1 _ fun H1 a1 => ?_
    rw [if_neg (by decide)]
    exact q _ a1
  · cases e
theorem snd_tOr {u w : TT} {a b : M Bool} (ha : SndT K u a) (hb : SndT K w b) : SndT K (tOr u w) (tOrM a b) := by
  intro env σ Fz H F R x env' e Q q
  unfold tOrM at e
  split at e
  · rename_i env1 e1
    cases e
    refine ha env σ Fz H F R _ _ e1 _ fun H1 a1 => ?_
    rw [if_pos rfl]
    exact q _ a1
  · rename_i env1 e1
    refine ha env σ Fz H F R _ _ e1 _ fun H1 a1 => ?_
    rw [if_neg (by decide)]
    obtain ⟨Fz1, F1, R1, S1⟩ := a1
    exact hb env1 σ Fz1 H1 F1 R1 _ _ e _ fun H' a => q H' (a.trans S1)
  · cases e
theorem snd_tNot {u : TT} {a : M Bool} (ha : SndT K u a) : SndT K (tNot u) (tNotM a) := by
  intro env σ Fz H F R x env' e Q q
  unfold tNotM at e
  split at e
  case h_2 => cases e
  rename_i b env1 e1
  cases e
  exact ha env σ Fz H F R _ _ e1 _ fun H1 a1 => q _ a1
theorem snd_tYes : SndT K tYes tTrue := by
  intro env σ Fz H F R x env' e Q q
  cases e
  exact q _ (.refl R)
theorem snd_ite {u : TT} {c : M Bool} {a b : M O} (hc : SndT K u c) (ha : SndV K ta a) (hb : SndV K tb b) : SndV K (tIf u ta tb) (vIte c a b) := by
  intro env σ Fz H F R x env' e Q q
  unfold vIte at e
  split at e
  · rename_i env1 e1
    refine hc env σ Fz H F R _ _ e1 _ fun H1 a1 => ?_
    rw [if_pos rfl]
    obtain ⟨Fz1, F1, R1, S1⟩ := a1
    exact ha env1 σ Fz1 H1 F1 R1 _ _ e _ fun v H' a => q v H' (a.trans S1)
  · rename_i env1 e1
    refine hc env σ Fz H F R _ _ e1 _ fun H1 a1 => ?_
    rw [if_neg (by decide)]
    obtain ⟨Fz1, F1, R1, S1⟩ := a1
    exact hb env1 σ Fz1 H1 F1 R1 _ _ e _ fun v H' a => q v H' (a.trans S1)
  · cases e

theorem snd_tIte {u v w : TT} {c a b : M Bool} (hc : SndT K u c) (ha : SndT K v a) (hb : SndT K w b) : SndT K (tIfT u v w) (tIteM c a b) := by
  intro env σ Fz H F R x env' e Q q
  unfold tIteM at e
  split at e
  · rename_i env1 e1
    refine hc env σ Fz H F R _ _ e1 _ fun H1 a1 => ?_
    rw [if_pos rfl]
    obtain ⟨Fz1, F1, R1, S1⟩ := a1
    exact ha env1 σ Fz1 H1 F1 R1 _ _ e _ fun H' a => q H' (a.trans S1)
  · rename_i env1 e1
    refine hc env σ Fz H F R _ _ e1 _ fun H1 a1 => ?_
    rw [if_neg (by decide)]
    obtain ⟨Fz1, F1, R1, S1⟩ := a1
    exact hb env1 σ Fz1 H1 F1 R1 _ _ e _ fun H' a => q H' (a.trans S1)
  · cases e
/-! ### displays -/
theorem snd_tup {ts : TA} {es : M (List D)} (hs : SndDs K ts es) : SndV K (tTupF ts) (vTup es) := by
  intro env σ Fz H F R x env' e Q q
  unfold vTup at e
  split at e
  case h_2 => cases e
  rename_i ds env1 e1
  obtain ⟨g, e⟩ := guardB_some e
  cases e
  refine hs env σ Fz H F R _ _ e1 _ fun vs H1 a1 => ?_
  obtain ⟨Fz1, F1, R1, S1, r1⟩ := a1
  have l := Reps.length _ _ r1
  have g := of_decide_eq_true g
  refine ⟨by omega, fun p ob hp hc hd => q _ _ (After.trans S1 (R1.new (NewV.tup R1.sub r1 hp hc hd)))⟩
theorem RepOs.length : ∀ (os : List O) (vs : List V) (A : List Addr), RepOs K Fz H os vs A → vs.length = os.length
  | [], vs, A, h => by unfold RepOs at h; rw [h.1]; rfl
  | o :: os, vs, A, h => by
    unfold RepOs at h
    obtain ⟨v, r, B, C, e1, eA, h1, h2⟩ := h
    rw [e1, List.length_cons, List.length_cons, RepOs.length os r C h2]
/-- a new list about what is held -/
theorem after_lst {os : List O} {vs : List V} {B : List Addr} {Fz1 H1 : Hp} {F1 : Nat → List Addr} {p : Addr} (R1 : Rel K env' σ Fz1 H1 F1) (S : Stp Fz H (Own F) Fz1 H1 (fun a => Own F1 a ∨ a ∈ B)) (r : RepOs K Fz1 H1 os vs B) (nd : B.Nodup)
    (hb : ∀ b ∈ B, ¬ Own F1 b ∧ Fz1 b = none) (hp : H1 p = none) : After K σ Fz H F env' (.lst os) (.ref p) (upd H1 p (.lst vs)) := by
  have al := RepOs.alive os vs B r
  have hz : Fz1 p = none := by
    cases q : Fz1 p with
    | none => rfl
    | some u => rw [R1.sub p u q] at hp; cases hp
  have up := Same.upd (u := .lst vs) hp
  refine ⟨Fz1, F1, p :: B, R1.grow (Same.refl _) (R1.sub.trans up) up (fun a z => .inl z), ⟨S.fz, fun a u h n => up a u (S.hp a u h n), fun a h => Same.ne up (S.al a h), fun a z => ?_, S.fn⟩, ?_, List.nodup_cons.mpr ⟨fun z => al p z hp, nd⟩, fun b z => ?_⟩
  · rcases z with z | z
    · exact S.nw a (.inl z)
    · rcases List.mem_cons.mp z with z | z
      · by_cases q : H a = none
        · exact .inr q
        · exact absurd (z ▸ hp) (S.al a q)
      · exact S.nw a (.inr z)
  · unfold RepO
    exact ⟨p, vs, B, rfl, upd_same, rfl, RepOs.frame (Same.refl _) os vs B (fun a ha u h => up a u h) r⟩
  · rcases List.mem_cons.mp z with z | z
    · rw [z]; exact ⟨fun w => R1.alive w hp, hz⟩
    · exact hb b z
theorem snd_lst {ts : TA} {es : M (List O)} (hs : SndVs K ts es) : SndV K (tLst ts) (vLst es) := by
  intro env σ Fz H F R x env' e Q q
  unfold vLst at e
  split at e
  case h_2 => cases e
  rename_i ds env1 e1
  obtain ⟨g, e⟩ := guardB_some e
  cases e
  refine hs env σ Fz H F R _ _ e1 _ fun vs H1 a1 => ?_
  obtain ⟨Fz1, F1, B, R1, S1, r1, nd, hb⟩ := a1
  have l := RepOs.length _ _ _ r1
  have g := of_decide_eq_true g
  exact ⟨by omega, fun p hp => q _ _ (after_lst R1 S1 r1 nd hb hp)⟩

/-! ### slices -/
theorem snd_iNone : SndI K tNoPart iNone := by
  intro env σ Fz H F R x env' e Q q
  cases e
  exact q _ (.refl R)
theorem snd_iSome {f : M O} (h : SndV K t f) : SndI K (tPart t) (iSome f) := by
  intro env σ Fz H F R x env' e Q q
  unfold iSome at e
  split at e
  case h_2 => cases e
  rename_i i env1 e1
  cases e
  refine h env σ Fz H F R _ _ e1 _ fun v1 H1 a1 => ?_
  obtain ⟨e2, _⟩ := id a1.intU
  exact ⟨i, e2, q _ a1.u⟩
theorem Reps.cut {ds : List D} {vs : List V} (r : Reps K Fz ds vs) (lo hi : Option Int) : Reps K Fz (cutD ds lo hi) (cutV vs lo hi) := by
  unfold cutD cutV
  rw [← Reps.length _ _ r]
  exact Reps.take _ _ _ (Reps.drop _ _ _ r)
theorem os_slc {o z : O} {x : V} {lo hi : Option Int} (sub : Same Fz H) (ra : RepR K Fz H o x) (e : slcf o lo hi = some z) (Q : VK) (q : ∀ v H', NewV K Fz H z v H' → Q v H') : rSlA K x lo hi H Q := by
  unfold slcf at e
  cases h : asList o with
  | some xs =>
    rw [h] at e
    cases e
    obtain ⟨a, vs, rfl, s1, r1⟩ := ra.list sub h
    exact ⟨a, vs, rfl, .inl ⟨s1, fun p hp => q _ _ (NewV.lst sub (r1.cut lo hi) hp)⟩⟩
  | none =>
    rw [h] at e
    simp only at e
    cases h2 : asTup o with
    | none => rw [h2] at e; cases e
    | some xs =>
      rw [h2] at e
      cases e
      obtain ⟨a, vs, rfl, s1, r1⟩ := ra.tup sub h2
      refine ⟨a, vs, rfl, .inr ⟨(s1.mono sub).sqT, fun w => q _ _ (NewV.data sub ?_), fun w p ob hp hc hd => q _ _ (NewV.tup sub (r1.cut lo hi) hp hc hd)⟩⟩
      have e : cutD xs lo hi = xs := by
        have l := Reps.length _ _ r1
        unfold cutD
        rw [← l, w.1, w.2, List.drop_zero, Nat.sub_zero, l, List.take_length]
      rw [e]
      unfold Rep
      exact ⟨a, vs, rfl, s1, r1⟩
theorem snd_slc {a : M Opnd} {lo hi : M (Option Int)} {tl th : TO} (ha : SndP K ta a) (hl : SndI K tl lo) (hh : SndI K th hi) : SndV K (L2.tSl (rSlA K) ta tl th) (vSlc a lo hi) := by
  intro env σ Fz H F R x env' e Q q
  unfold vSlc at e
  split at e
  case h_2 => cases e
  rename_i p env1 e1
  split at e
  case h_2 => cases e
  rename_i l env2 e2
  split at e
  case h_2 => cases e
  rename_i u env3 e3
  refine ha env σ Fz H F R _ _ e1 _ fun v1 H1 a1 => ?_
  obtain ⟨Fz1, F1, R1, S1, r1⟩ := a1
  refine hl env1 σ Fz1 H1 F1 R1 _ _ e2 _ fun H2 a2 => ?_
  obtain ⟨Fz2, F2, R2', S2⟩ := a2
  refine hh env2 σ Fz2 H2 F2 R2' _ _ e3 _ fun H3 a3 => ?_
  obtain ⟨Fz3, F3, R3, S3⟩ := a3
  cases h1 : res env3 p with
  | none => rw [h1] at e; cases e
  | some y =>
    rw [h1] at e
    simp only at e
    cases h3 : slcf y l u with
    | none => rw [h3] at e; cases e
    | some z =>
      rw [h3] at e
      cases e
      exact os_slc R3.sub (R3.res (r1.mono (S2.fz.trans S3.fz)) h1) h3 Q fun v H' n => q v H' (After.trans (S1.trans (S2.trans S3)) (R3.new n))

/-! ### list(reversed(..)), list(range(..)) -/
theorem snd_rev {a : M Opnd} (ha : SndP K ta a) : SndV K (tRevL K ta) (vOp1 revf a) := by
  have h : SndV K (tUn (fun x H Q => ∃ a xs, x = V.ref a ∧ SqL K H a xs ∧ ∀ p, H p = none → Q (.ref p) (upd H p (.lst xs.reverse))) ta) (vOp1 revf a) := by
    refine snd_op1 ha fun Fz H x y o sub ra e Q q => ?_
    unfold revf at e
    cases h : asList y with
    | none => rw [h] at e; cases e
    | some xs =>
      rw [h] at e
      cases e
      obtain ⟨a, vs, rfl, s1, r1⟩ := ra.list sub h
      exact ⟨a, vs, rfl, s1, fun p hp => q _ _ (NewV.lst sub (Reps.reverse _ _ r1) hp)⟩
  exact h
theorem Reps.rngV (a b : Int) : Reps K Fz (rngV a b) (rgV a b) := by
  unfold PD.rngV rgV
  induction (List.range (b - a).toNat) with
  | nil => exact Reps.nil
  | cons x xs ih => exact Reps.cons (by unfold Rep; rfl) ih
theorem lrng_ok {a b : Int} {o : O} (h : lrngf a b = some o) : RgOk a b ∧ o = mkL (rngV a b) := by
  unfold lrngf smallI at h
  obtain ⟨g, e⟩ := guardB_some h
  cases e
  simp only [Bool.and_eq_true, decide_eq_true_eq] at g
  exact ⟨⟨g.1.1.1, g.1.1.2, g.1.2.1, g.1.2.2, g.2⟩, rfl⟩
theorem snd_lrng1 {a : M Opnd} (ha : SndP K ta a) : SndV K (tLstRg (tRg1 ta)) (vLrng1 a) := by
  intro env σ Fz H F R x env' e Q q
  unfold vLrng1 vOp1 at e
  split at e
  case h_2 => cases e
  rename_i p env1 e1
  split at e
  case h_2 => cases e
  rename_i y h1
  refine ha env σ Fz H F R _ _ e1 _ fun v1 H1 a1 => ?_
  obtain ⟨Fz1, F1, R1, S1, r1⟩ := a1
  simp only at e
  cases h2 : asInt y with
  | none => rw [h2] at e; cases e
  | some j =>
    rw [h2] at e
    simp only at e
    cases h3 : lrngf 0 j with
    | none => rw [h3] at e; cases e
    | some z =>
      rw [h3] at e
      cases e
      obtain ⟨g, rfl⟩ := lrng_ok h3
      exact ⟨j, (R1.res r1 h1).int h2, g, fun p hp => q _ _ (After.trans S1 (R1.new (NewV.lst R1.sub (Reps.rngV 0 j) hp)))⟩
theorem snd_lrng2 {a b : M Opnd} (ha : SndP K ta a) (hb : SndP K tb b) : SndV K (tLstRg (tRg2 ta tb)) (vLrng2 a b) := by
  intro env σ Fz H F R x env' e Q q
  unfold vLrng2 at e
  split at e
  case h_2 => cases e
  rename_i p env1 e1
  split at e
  case h_2 => cases e
  rename_i p2 env2 e2
  split at e
  case h_2 => cases e
  rename_i y1 y2 h1 h2
  split at e
  case h_2 => cases e
  rename_i i j g1 g2
  refine ha env σ Fz H F R _ _ e1 _ fun v1 H1 a1 => ?_
  obtain ⟨Fz1, F1, R1, S1, r1⟩ := a1
  refine hb env1 σ Fz1 H1 F1 R1 _ _ e2 _ fun v2 H2 a2 => ?_
  obtain ⟨Fz2, F2, R2', S2, r2⟩ := a2
  cases h3 : lrngf i j with
  | none => rw [h3] at e; cases e
  | some z =>
    rw [h3] at e
    cases e
    obtain ⟨g, rfl⟩ := lrng_ok h3
    exact ⟨i, j, (R2'.res (r1.mono S2.fz) h1).int g1, (R2'.res r2 h2).int g2, g, fun p hp => q _ _ (After.trans (S1.trans S2) (R2'.new (NewV.lst R2'.sub (Reps.rngV i j) hp)))⟩

/-! ### x.index(y) -/
theorem os_idx {tup : Bool} {o p z : O} {x y : V} (sub : Same Fz H) (ra : RepR K Fz H o x) (rb : RepR K Fz H p y) (e : idxf tup o p = some z) (Q : VK) (q : ∀ v H', NewV K Fz H z v H' → Q v H') : rIdx K tup x [y] H Q := by
  unfold idxf at e
  split at e
  case h_2 => cases e
  rename_i xs h
  obtain ⟨g, e⟩ := guardB_some e
  cases hj : idxD xs p.toD with
  | none => rw [hj] at e; cases e
  | some j =>
    rw [hj] at e
    cases e
    have g : min (PyData.depthAll xs) p.toD.depth ≤ 60 := of_decide_eq_true g
    cases tup with
    | true =>
      obtain ⟨a, vs, rfl, s1, r1⟩ := ra.tup sub (by simpa using h)
      exact ⟨a, y, _, xs, vs, j, rfl, rfl, by rw [if_pos rfl]; exact (s1.mono sub).sqT, Reps.mono sub _ _ r1, rb.data sub, g, hj, q _ _ (NewV.int sub)⟩
    | false =>
      obtain ⟨a, vs, rfl, s1, r1⟩ := ra.list sub (by simpa using h)
      exact ⟨a, y, _, xs, vs, j, rfl, rfl, by rw [if_neg (by decide)]; exact s1, Reps.mono sub _ _ r1, rb.data sub, g, hj, q _ _ (NewV.int sub)⟩
theorem snd_idx {tup : Bool} {a b : M Opnd} (ha : SndP K ta a) (hb : SndP K tb b) : SndV K (if tup = true then tBMT K (rIdx K true) ta (tCons tb tNil) else tBM K "list" (rIdx K false) ta (tCons tb tNil)) (vIdx tup a b) := by
  intro env σ Fz H F R x env' e Q q
  unfold vIdx at e
  split at e
  case h_2 => cases e
  rename_i p env1 e1
  split at e
  case h_2 => cases e
  rename_i y0 h0
  obtain ⟨g, e⟩ := guardB_some e
  split at e
  case h_2 => cases e
  rename_i p2 env2 e2
  split at e
  case h_2 => cases e
  rename_i y1 y2 h1 h2
  have core : ∀ v1 H1 Fz1 F1, Rel K env1 σ Fz1 H1 F1 → Stp Fz H (Own F) Fz1 H1 (Own F1) → RepP K Fz1 σ p v1 → tb σ H1 fun v2 H2 => rIdx K tup v1 [v2] H2 Q := by
    intro v1 H1 Fz1 F1 R1 S1 r1
    refine hb env1 σ Fz1 H1 F1 R1 _ _ e2 _ fun v2 H2 a2 => ?_
    obtain ⟨Fz2, F2, R2', S2, r2⟩ := a2
    cases h3 : idxf tup y1 y2 with
    | none => rw [h3] at e; cases e
    | some z =>
      rw [h3] at e
      cases e
      exact os_idx R2'.sub (R2'.res (r1.mono S2.fz) h1) (R2'.res r2 h2) h3 Q fun v H' n => q v H' (After.trans (S1.trans S2) (R2'.new n))
  unfold isKind at g
  cases tup with
  | true =>
    rw [if_pos rfl] at g ⊢
    obtain ⟨xs, hx⟩ := Option.isSome_iff_exists.mp g
    refine ha env σ Fz H F R _ _ e1 _ fun v1 H1 a1 => ?_
    obtain ⟨Fz1, F1, R1, S1, r1⟩ := a1
    obtain ⟨a, vs, rfl, s1, _⟩ := (R1.res r1 h0).tup R1.sub hx
    exact ⟨⟨a, vs, rfl, s1.mono R1.sub⟩, core _ H1 Fz1 F1 R1 S1 r1⟩
  | false =>
    rw [if_neg (by decide)] at g ⊢
    obtain ⟨xs, hx⟩ := Option.isSome_iff_exists.mp g
    refine ha env σ Fz H F R _ _ e1 _ fun v1 H1 a1 => ?_
    obtain ⟨Fz1, F1, R1, S1, r1⟩ := a1
    obtain ⟨a, vs, rfl, s1, _⟩ := (R1.res r1 h0).list R1.sub hx
    exact ⟨.inl ⟨rfl, vs, s1⟩, core _ H1 Fz1 F1 R1 S1 r1⟩
end
end PD
end

section
set_option Elab.async false
set_option linter.all false
set_option maxRecDepth 100000
set_option maxHeartbeats 1000000
/-! PD: soundness of calls. -/
namespace PD
open PySem PySem.Spec PyProof.Rows L2

/-- the lent slots as a callee left them -/
def finEnv (os : List O) (fin : List (Option O)) : Env := List.zipWith (fun o f => if isOwn o = true then f else none) os fin
/-- what is promised of a function -/
def SpF (K : PySem.W.Frag) (C : CallT) (f : Nat) : Sp := fun vs H Q _ => ∃ Fz os F o fin, Rel K (os.map some) (vs.map some) Fz H F ∧ C f os = some (o, fin) ∧ fin.length = os.length ∧ ∀ v H', After K (vs.map some) Fz H F (finEnv os fin) o v H' → Q v H'

section
theorem Paired.get {α β : Type} {R : α → β → Prop} : ∀ {xs : List α} {ys : List β}, Paired R xs ys → ∀ (i : Nat) (x : α), xs[i]? = some x → ∃ y, ys[i]? = some y ∧ R x y
  | _, _, .nil, i, x, e => by simp at e
  | _, _, .cons r t, 0, x, e => by
    simp at e
    subst e
    exact ⟨_, rfl, r⟩
  | _, _, .cons r t, i + 1, x, e => Paired.get t i x (by simpa using e)
theorem Paired.len {α β : Type} {R : α → β → Prop} : ∀ {xs : List α} {ys : List β}, Paired R xs ys → xs.length = ys.length
  | _, _, .nil => rfl
  | _, _, .cons r t => by rw [List.length_cons, List.length_cons, Paired.len t]
theorem ress_get {env : Env} : ∀ {ps : List Opnd} {os : List O}, ress env ps = some os → os.length = ps.length ∧ ∀ (i : Nat) (o : O), os[i]? = some o → ∃ p, ps[i]? = some p ∧ res env p = some o
  | [], os, e => by
    have e : some [] = some os := e
    cases e
    exact ⟨rfl, fun i o e => by simp at e⟩
  | p :: ps, os, e => by
    unfold ress at e
    cases h1 : res env p with
    | none => rw [h1] at e; cases e
    | some o =>
      cases h2 : ress env ps with
      | none => rw [h1, h2] at e; cases e
      | some os' =>
        rw [h1, h2] at e
        cases e
        obtain ⟨l, g⟩ := ress_get h2
        refine ⟨by rw [List.length_cons, List.length_cons, l], fun i x e => ?_⟩
        cases i with
        | zero =>
          simp at e
          subst e
          exact ⟨p, rfl, h1⟩
        | succ i => exact g i x (by simpa using e)
/-- where a slot is lent -/
def lentAt : List Opnd → List O → Nat → Option Nat
  | .slot k :: ps, o :: os, j => if isOwn o = true ∧ k = j then some 0 else (lentAt ps os j).map (· + 1)
  | .val _ :: ps, _ :: os, j => (lentAt ps os j).map (· + 1)
  | _, _, _ => none
theorem lentAt_some : ∀ {ps : List Opnd} {os : List O} {j i : Nat}, lentAt ps os j = some i → ps[i]? = some (.slot j) ∧ (∃ o, os[i]? = some o ∧ isOwn o = true) ∧ j ∈ lentOf ps os
  | [], _, j, i, e => by cases e
  | .slot _ :: _, [], _, _, e => by cases e
  | .val _ :: _, [], _, _, e => by cases e
  | .slot k :: ps, o :: os, j, i, e => by
    unfold lentAt at e
    by_cases h : isOwn o = true ∧ k = j
    · rw [if_pos h] at e
      cases e
      obtain ⟨h1, rfl⟩ := h
      refine ⟨rfl, ⟨o, rfl, h1⟩, ?_⟩
      unfold lentOf
      rw [if_pos h1]
      exact List.mem_cons_self
    · rw [if_neg h] at e
      cases q : lentAt ps os j with
      | none => rw [q] at e; cases e
      | some i' =>
        rw [q] at e
        cases e
        obtain ⟨a1, a2, a3⟩ := lentAt_some q
        refine ⟨a1, a2, ?_⟩
        unfold lentOf
        split
        · exact List.mem_cons_of_mem _ a3
        · exact a3
  | .val _ :: ps, o :: os, j, i, e => by
    unfold lentAt at e
    cases q : lentAt ps os j with
    | none => rw [q] at e; cases e
    | some i' =>
      rw [q] at e
      cases e
      obtain ⟨a1, a2, a3⟩ := lentAt_some q
      exact ⟨a1, a2, a3⟩
theorem lentAt_none : ∀ {ps : List Opnd} {os : List O} {j : Nat}, lentAt ps os j = none → ∀ (i : Nat) (o : O), ps[i]? = some (.slot j) → os[i]? = some o → isOwn o = false
  | [], _, j, e, i, o, h1, h2 => by simp at h1
  | _ :: _, [], j, e, i, o, h1, h2 => by simp at h2
  | .slot k :: ps, x :: os, j, e, i, o, h1, h2 => by
    unfold lentAt at e
    by_cases h : isOwn x = true ∧ k = j
    · rw [if_pos h] at e; cases e
    · rw [if_neg h] at e
      have e := Option.map_eq_none_iff.mp e
      cases i with
      | zero =>
        simp at h1 h2
        subst h1 h2
        cases q : isOwn x with
        | true => exact absurd ⟨q, rfl⟩ h
        | false => rfl
      | succ i => exact lentAt_none e i o (by simpa using h1) (by simpa using h2)
  | .val _ :: ps, x :: os, j, e, i, o, h1, h2 => by
    unfold lentAt at e
    have e := Option.map_eq_none_iff.mp e
    cases i with
    | zero => simp at h1
    | succ i => exact lentAt_none e i o (by simpa using h1) (by simpa using h2)
theorem mem_lent : ∀ {ps : List Opnd} {os : List O} {j i : Nat} {o : O}, ps[i]? = some (.slot j) → os[i]? = some o → isOwn o = true → j ∈ lentOf ps os
  | [], _, j, i, o, h1, _, _ => by simp at h1
  | _ :: _, [], j, i, o, _, h2, _ => by simp at h2
  | .slot k :: ps, x :: os, j, 0, o, h1, h2, h3 => by
    simp at h1 h2
    subst h1 h2
    unfold lentOf
    rw [if_pos h3]
    exact List.mem_cons_self
  | .val _ :: ps, x :: os, j, 0, o, h1, h2, h3 => by simp at h1
  | .slot k :: ps, x :: os, j, i + 1, o, h1, h2, h3 => by
    have := mem_lent (ps := ps) (os := os) (by simpa using h1) (by simpa using h2) h3
    unfold lentOf
    split
    · exact List.mem_cons_of_mem _ this
    · exact this
  | .val _ :: ps, x :: os, j, i + 1, o, h1, h2, h3 => mem_lent (ps := ps) (os := os) (by simpa using h1) (by simpa using h2) h3
theorem nodupB_cons {x : Nat} {xs : List Nat} (h : nodupB (x :: xs) = true) : x ∉ xs ∧ nodupB xs = true := by
  unfold nodupB at h
  simp only [Bool.and_eq_true, Bool.not_eq_true', List.contains_eq_mem, decide_eq_false_iff_not] at h
  exact h
/-- a slot is lent once -/
theorem lent_one : ∀ {ps : List Opnd} {os : List O} {j i i' : Nat} {o o' : O}, nodupB (lentOf ps os) = true → ps[i]? = some (.slot j) → os[i]? = some o → isOwn o = true → ps[i']? = some (.slot j) → os[i']? = some o' → isOwn o' = true → i = i'
  | [], _, j, i, i', o, o', nd, h1, _, _, _, _, _ => by simp at h1
  | _ :: _, [], j, i, i', o, o', nd, _, h2, _, _, _, _ => by simp at h2
  | .val _ :: ps, x :: os, j, i, i', o, o', nd, h1, h2, h3, g1, g2, g3 => by
    cases i with
    | zero => simp at h1
    | succ i =>
      cases i' with
      | zero => simp at g1
      | succ i' =>
        have := lent_one (ps := ps) (os := os) (j := j) (i := i) (i' := i') (o := o) (o' := o') nd (by simpa using h1) (by simpa using h2) h3 (by simpa using g1) (by simpa using g2) g3
        rw [this]
  | .slot k :: ps, x :: os, j, i, i', o, o', nd, h1, h2, h3, g1, g2, g3 => by
    unfold lentOf at nd
    have nd2 : nodupB (lentOf ps os) = true := by
      split at nd
      · exact (nodupB_cons nd).2
      · exact nd
    cases i with
    | zero =>
      cases i' with
      | zero => rfl
      | succ i' =>
        simp at h1 h2
        subst h1 h2
        rw [if_pos h3] at nd
        exact absurd (mem_lent (ps := ps) (os := os) (by simpa using g1) (by simpa using g2) g3) (nodupB_cons nd).1
    | succ i =>
      cases i' with
      | zero =>
        simp at g1 g2
        subst g1 g2
        rw [if_pos g3] at nd
        exact absurd (mem_lent (ps := ps) (os := os) (by simpa using h1) (by simpa using h2) h3) (nodupB_cons nd).1
      | succ i' =>
        have := lent_one (ps := ps) (os := os) (j := j) (i := i) (i' := i') (o := o) (o' := o') nd2 (by simpa using h1) (by simpa using h2) h3 (by simpa using g1) (by simpa using g2) g3
        rw [this]
theorem giveBack_length : ∀ (ps : List Opnd) (os : List O) (fs : List (Option O)) (env : Env), (giveBack ps os fs env).length = env.length
  | [], _, _, env => by unfold giveBack; rfl
  | .slot _ :: _, [], _, env => by unfold giveBack; rfl
  | .val _ :: _, [], _, env => by unfold giveBack; rfl
  | .slot _ :: _, _ :: _, [], env => by unfold giveBack; rfl
  | .val _ :: _, _ :: _, [], env => by unfold giveBack; rfl
  | .slot i :: ps, o :: os, f :: fs, env => by
    unfold giveBack
    rw [giveBack_length ps os fs]
    split
    · rw [List.length_set]
    · rfl
  | .val _ :: ps, o :: os, f :: fs, env => by
    unfold giveBack
    rw [giveBack_length ps os fs]
theorem look_giveBack : ∀ (ps : List Opnd) (os : List O) (fs : List (Option O)) (env : Env) (j : Nat), nodupB (lentOf ps os) = true → fs.length = os.length → (∀ k ∈ lentOf ps os, k < env.length) →
    look (giveBack ps os fs env) j = match lentAt ps os j with
      | some i => (fs[i]?).join
      | none => look env j
  | [], _, _, env, j, _, _, _ => by unfold giveBack lentAt; rfl
  | .slot _ :: _, [], _, env, j, _, _, _ => by unfold giveBack lentAt; rfl
  | .val _ :: _, [], _, env, j, _, _, _ => by unfold giveBack lentAt; rfl
  | .slot _ :: _, _ :: _, [], env, j, _, l, _ => by cases l
  | .val _ :: _, _ :: _, [], env, j, _, l, _ => by cases l
  | .val _ :: ps, o :: os, f :: fs, env, j, nd, l, al => by
    unfold giveBack lentAt
    rw [look_giveBack ps os fs env j nd (by simpa using l) al]
    cases lentAt ps os j with
    | none => rfl
    | some i => rfl
  | .slot k :: ps, o :: os, f :: fs, env, j, nd, l, al => by
    unfold giveBack lentAt
    unfold lentOf at nd al
    by_cases h : isOwn o = true
    · rw [if_pos h] at nd al ⊢
      obtain ⟨n1, n2⟩ := nodupB_cons nd
      have hk : k < env.length := al k List.mem_cons_self
      rw [look_giveBack ps os fs _ j n2 (by simpa using l) fun k' hk' => by rw [List.length_set]; exact al k' (List.mem_cons_of_mem _ hk')]
      by_cases hj : k = j
      · subst hj
        rw [if_pos ⟨h, rfl⟩]
        cases q : lentAt ps os k with
        | some i => exact absurd (lentAt_some q).2.2 n1
        | none =>
          show look (env.set k f) k = f
          rw [look_set, if_pos ⟨rfl, hk⟩]
      · rw [if_neg fun z => hj z.2]
        cases q : lentAt ps os j with
        | some i => rfl
        | none =>
          show look (env.set k f) j = look env j
          rw [look_set, if_neg fun z => hj z.1]
    · rw [if_neg h] at nd al ⊢
      rw [if_neg fun z => h z.1, look_giveBack ps os fs env j nd (by simpa using l) al]
      cases lentAt ps os j with
      | none => rfl
      | some i => rfl
end

section
variable {K : PySem.W.Frag} {env env' : Env} {σ : L2.St} {Fz H Fz' H' : Hp} {F F' : Nat → List Addr}
/-- the callee's own objects: those of the slots that were lent -/
def lentF (F : Nat → List Addr) (ps : List Opnd) (i : Nat) : List Addr := match ps[i]? with
  | some (.slot j) => F j
  | _ => []
theorem own_of (R : Rel K env σ Fz H F) {j : Nat} {a : Addr} {o : O} (ha : a ∈ F j) (e : look env j = some o) : isOwn o = true := by
  obtain ⟨v, _, r⟩ := R.sl j o e
  cases o with
  | d x =>
    unfold RepO at r
    rw [r.1] at ha
    exact absurd ha List.not_mem_nil
  | lst os => rfl
theorem lentF_get {ps : List Opnd} {i : Nat} {a : Addr} (h : a ∈ lentF F ps i) : ∃ j, ps[i]? = some (.slot j) ∧ a ∈ F j := by
  unfold lentF at h
  cases q : ps[i]? with
  | none => rw [q] at h; exact absurd h List.not_mem_nil
  | some p =>
    rw [q] at h
    cases p with
    | val d => exact absurd h List.not_mem_nil
    | slot j => exact ⟨j, rfl, h⟩
theorem look_map {os : List O} {i : Nat} : look (os.map some) i = os[i]? := by
  unfold look
  rw [List.getElem?_map]
  cases os[i]? <;> rfl
theorem map_get {vs : List V} {i : Nat} {v : V} (h : vs[i]? = some v) : (vs.map some)[i]? = some (some v) := by
  rw [List.getElem?_map, h]; rfl
theorem Rel.callee (R : Rel K env σ Fz H F) {ps : List Opnd} {vs : List V} {os : List O} (r : Paired (RepP K Fz σ) ps vs) (e : ress env ps = some os) (nd : nodupB (lentOf ps os) = true) :
    Rel K (os.map some) (vs.map some) Fz H (lentF F ps) := by
  obtain ⟨l, g⟩ := ress_get e
  refine ⟨R.sub, ?_, fun i o h => ?_, fun i h => ?_, fun i => ?_, fun i i' a h1 h2 => ?_, fun i a h => ?_⟩
  · rw [List.length_map, List.length_map, l, Paired.len r]
  · rw [look_map] at h
    obtain ⟨p, h1, h2⟩ := g i o h
    obtain ⟨v, h3, h4⟩ := Paired.get r i p h1
    refine ⟨v, map_get h3, ?_⟩
    unfold lentF
    rw [h1]
    cases p with
    | val d =>
      have h2 : some (O.d d) = some o := h2
      cases h2
      unfold RepO
      exact ⟨rfl, h4⟩
    | slot j =>
      obtain ⟨w, k1, k2⟩ := R.sl j o h2
      have h4 : σ[j]? = some (some v) := h4
      rw [k1] at h4
      cases h4
      exact k2
  · rw [look_map] at h
    unfold lentF
    have : ps[i]? = none := by
      rw [List.getElem?_eq_none_iff] at h ⊢
      omega
    rw [this]
  · unfold lentF
    split
    · exact R.nd _
    · exact List.nodup_nil
  · obtain ⟨j, e1, m1⟩ := lentF_get h1
    obtain ⟨j', e2, m2⟩ := lentF_get h2
    have := R.dj j j' a m1 m2
    subst this
    have at1 : ∀ k, ps[k]? = some (Opnd.slot j) → ∃ o, os[k]? = some o ∧ isOwn o = true := fun k hk => by
      have hlt : k < ps.length := by
        by_cases q : k < ps.length
        · exact q
        · rw [List.getElem?_eq_none (by omega)] at hk; cases hk
      have : k < os.length := by omega
      refine ⟨os[k], List.getElem?_eq_getElem this, ?_⟩
      obtain ⟨p, h1, h2⟩ := g k _ (List.getElem?_eq_getElem this)
      rw [hk] at h1
      cases h1
      exact own_of R m1 h2
    obtain ⟨o1, q1, q2⟩ := at1 i e1
    obtain ⟨o2, q3, q4⟩ := at1 i' e2
    exact lent_one nd e1 q1 q2 e2 q3 q4
  · obtain ⟨j, _, m⟩ := lentF_get h
    exact R.fz j a m
theorem look_fin {os : List O} {fin : List (Option O)} {i : Nat} {o : O} (h : os[i]? = some o) (ho : isOwn o = true) : look (finEnv os fin) i = (fin[i]?).join := by
  unfold look finEnv
  rw [List.getElem?_zipWith, h]
  cases fin[i]? with
  | none => rfl
  | some f => simp [ho]
/-- behind a call -/
theorem Rel.called (R : Rel K env σ Fz H F) {ps : List Opnd} {vs : List V} {os : List O} {fin : List (Option O)} {o : O} {v : V} (r : Paired (RepP K Fz σ) ps vs) (e : ress env ps = some os) (nd : nodupB (lentOf ps os) = true) (hl : fin.length = os.length)
    (h : After K (vs.map some) Fz H (lentF F ps) (finEnv os fin) o v H') : After K σ Fz H F (giveBack ps os fin env) o v H' := by
  obtain ⟨l, g⟩ := ress_get e
  obtain ⟨Fz', G, B, R', S, ro, ndB, hb⟩ := h
  have lent_lt : ∀ k ∈ lentOf ps os, k < env.length := by
    have gen : ∀ (ps : List Opnd) (os : List O), ress env ps = some os → ∀ k ∈ lentOf ps os, k < env.length := by
      intro ps
      induction ps with
      | nil => intro os _ k hk; unfold lentOf at hk; exact absurd hk List.not_mem_nil
      | cons p ps ih =>
        intro os e k hk
        unfold ress at e
        cases h1 : PD.res env p with
        | none => rw [h1] at e; cases e
        | some o =>
          cases h2 : ress env ps with
          | none => rw [h1, h2] at e; cases e
          | some os' =>
            rw [h1, h2] at e
            cases e
            cases p with
            | val d => exact ih os' h2 k hk
            | slot j =>
              unfold lentOf at hk
              split at hk
              · rcases List.mem_cons.mp hk with z | z
                · rw [z]; exact look_lt h1
                · exact ih os' h2 k z
              · exact ih os' h2 k hk
    exact gen ps os e
  have ownL : ∀ a, Own (lentF F ps) a → Own F a := fun a ⟨i, hi⟩ => let ⟨j, _, m⟩ := lentF_get hi; ⟨j, m⟩
  -- an object of a slot that is not lent is none of the callee's
  have apart : ∀ j a, a ∈ F j → lentAt ps os j = none → ¬ Own (lentF F ps) a := fun j a m n ⟨i, hi⟩ => by
    obtain ⟨j', e1, m'⟩ := lentF_get hi
    have := R.dj j j' a m m'
    subst this
    have hlt : i < ps.length := by
      by_cases q : i < ps.length
      · exact q
      · rw [List.getElem?_eq_none (by omega)] at e1; cases e1
    have hlt : i < os.length := by omega
    obtain ⟨p, h1, h2⟩ := g i _ (List.getElem?_eq_getElem hlt)
    rw [e1] at h1
    cases h1
    have := own_of R m h2
    rw [lentAt_none n i _ e1 (List.getElem?_eq_getElem hlt)] at this
    cases this
  have far : ∀ j a, a ∈ F j → lentAt ps os j = none → ¬ Own G a ∧ a ∉ B := fun j a m n => by
    have hal := R.alive ⟨j, m⟩
    refine ⟨fun z => ?_, fun z => ?_⟩
    · rcases S.nw a (.inl z) with q | q
      · exact apart j a m n q
      · exact hal q
    · rcases S.nw a (.inr z) with q | q
      · exact apart j a m n q
      · exact hal q
  have lookG := fun j => look_giveBack ps os fin env j nd hl lent_lt
  refine ⟨Fz', fun j => match lentAt ps os j with
    | some i => G i
    | none => F j, B, ⟨R'.sub, ?_, fun j x h => ?_, fun j h => ?_, fun j => ?_, fun j j' a h1 h2 => ?_, fun j a h => ?_⟩, ⟨S.fz, fun a u h n => S.hp a u h fun z => n (ownL a z), S.al, fun a z => ?_, fun a z => ?_⟩, ro, ndB, fun b z => ⟨fun w => ?_, (hb b z).2⟩⟩
  · rw [giveBack_length]; exact R.len
  · rw [lookG] at h
    show ∃ v, σ[j]? = some (some v) ∧ RepO K Fz' H' x v (match lentAt ps os j with
      | some i => G i
      | none => F j)
    cases q : lentAt ps os j with
    | some i =>
      rw [q] at h
      obtain ⟨q1, ⟨y, q2, q3⟩, _⟩ := lentAt_some q
      obtain ⟨w, k1, k2⟩ := R'.sl i x (by rw [look_fin q2 q3]; exact h)
      obtain ⟨w', k3, k4⟩ := Paired.get r i _ q1
      rw [map_get k3] at k1
      have k1 := Option.some.inj (Option.some.inj k1)
      subst k1
      exact ⟨_, k4, k2⟩
    | none =>
      rw [q] at h
      obtain ⟨w, k1, k2⟩ := R.sl j x h
      exact ⟨w, k1, RepO.frame S.fz x w _ (fun a ha u hu => S.hp a u hu (apart j a ha q)) k2⟩
  · rw [lookG] at h
    show (match lentAt ps os j with
      | some i => G i
      | none => F j) = []
    cases q : lentAt ps os j with
    | some i =>
      rw [q] at h
      obtain ⟨q1, ⟨y, q2, q3⟩, _⟩ := lentAt_some q
      exact R'.no i (by rw [look_fin q2 q3]; exact h)
    | none =>
      rw [q] at h
      exact R.no j h
  · show (match lentAt ps os j with
      | some i => G i
      | none => F j).Nodup
    cases lentAt ps os j with
    | some i => exact R'.nd i
    | none => exact R.nd j
  · have h1 : a ∈ (match lentAt ps os j with
      | some i => G i
      | none => F j) := h1
    have h2 : a ∈ (match lentAt ps os j' with
      | some i => G i
      | none => F j') := h2
    cases q : lentAt ps os j with
    | some i =>
      rw [q] at h1
      cases q' : lentAt ps os j' with
      | some i' =>
        rw [q'] at h2
        have := R'.dj i i' a h1 h2
        subst this
        have e1 := (lentAt_some q).1
        have e2 := (lentAt_some q').1
        rw [e1] at e2
        cases e2
        rfl
      | none =>
        rw [q'] at h2
        exact absurd ⟨i, h1⟩ (far j' a h2 q').1
    | none =>
      rw [q] at h1
      cases q' : lentAt ps os j' with
      | some i' =>
        rw [q'] at h2
        exact absurd ⟨i', h2⟩ (far j a h1 q).1
      | none =>
        rw [q'] at h2
        exact R.dj j j' a h1 h2
  · have h : a ∈ (match lentAt ps os j with
      | some i => G i
      | none => F j) := h
    cases q : lentAt ps os j with
    | some i => rw [q] at h; exact R'.fz i a h
    | none =>
      rw [q] at h
      cases z : Fz' a with
      | none => rfl
      | some u =>
        rcases S.fn a (by rw [z]; exact fun z => nomatch z) with y | y | y
        · exact absurd (R.fz j a h) y
        · exact absurd y (R.alive ⟨j, h⟩)
        · exact absurd y (apart j a h q)
  · rcases z with ⟨j, z⟩ | z
    · have z : a ∈ (match lentAt ps os j with
        | some i => G i
        | none => F j) := z
      cases q : lentAt ps os j with
      | some i => rw [q] at z; exact (S.nw a (.inl ⟨i, z⟩)).imp (ownL a) id
      | none => rw [q] at z; exact .inl ⟨j, z⟩
    · exact (S.nw a (.inr z)).imp (ownL a) id
  · rcases S.fn a z with y | y | y
    · exact .inl y
    · exact .inr (.inl y)
    · exact .inr (.inr (ownL a y))
  · obtain ⟨j, w⟩ := w
    have w : b ∈ (match lentAt ps os j with
      | some i => G i
      | none => F j) := w
    cases q : lentAt ps os j with
    | some i => rw [q] at w; exact (hb b z).1 ⟨i, w⟩
    | none => rw [q] at w; exact (far j b w q).2 z
theorem snd_call {C : CallT} {f : Nat} {ts : TA} {es : M (List Opnd)} (hs : SndPs K ts es) : SndV K (tCall (SpF K C f) [] E0 ts) (vCall C f es) := by
  intro env σ Fz H F R x env' e Q q
  unfold vCall at e
  split at e
  case h_2 => cases e
  rename_i ps env1 e1
  unfold doCall at e
  split at e
  case h_2 => cases e
  rename_i os h1
  obtain ⟨nd, e⟩ := guardB_some e
  split at e
  case h_2 => cases e
  rename_i o fin h2
  obtain ⟨hl, e⟩ := guardB_some e
  cases e
  have hl : fin.length = os.length := by simpa using hl
  refine hs env σ Fz H F R _ _ e1 _ fun vs H1 a1 => ?_
  obtain ⟨Fz1, F1, R1, S1, r1⟩ := a1
  rw [List.append_nil]
  exact ⟨Fz1, os, lentF F1 ps, x, fin, R1.callee r1 h1 nd, h2, hl, fun v H' a => q v H' (After.trans S1 (R1.called r1 h1 nd hl a))⟩
end
end PD
end

section
set_option Elab.async false
set_option linter.all false
set_option maxRecDepth 100000
set_option maxHeartbeats 1000000
/-! PD: soundness of what is walked. -/
namespace PD
open PySem PySem.Spec PyProof.Rows L2

section
variable (K : PySem.W.Frag)
/-- what a turn yields -/
def ItemR (Fz H : Hp) : Item → V → Hp → Prop
  | .one d, v, H' => H' = H ∧ Rep K Fz d v
  | .row ds, v, H' => ∃ T vs, v = .ref T ∧ H T = none ∧ H' = upd H T (.tup vs) ∧ Reps K Fz ds vs
def WatchR (w : Option (Nat × List D)) (σ : L2.St) (Fz H : Hp) : Prop := match w with
  | none => True
  | some (i, xs) => ∃ a vs, σ[i]? = some (some (.ref a)) ∧ SqL K H a vs ∧ Reps K Fz xs vs
/-- J yields the items -/
def IsW (J : It) (items : List Item) (w : Option (Nat × List D)) (σ : L2.St) (Fz : Hp) : Prop :=
  ∀ Fz' H, Same Fz Fz' → Same Fz' H → WatchR K w σ Fz' H → ∀ i, (items.length = i → J.stop i H) ∧ ∀ x, items[i]? = some x → J.go i H ∧ ∀ v H', J.yld i H v H' → ItemR K Fz' H x v H'
def SndS (t : TI) (f : M Items) : Prop := ∀ env σ Fz H F, Rel K env σ Fz H F → ∀ items w env', f env = some ((items, w), env') → ∀ R : It → Hp → Prop,
  (∀ J H' Fz' F', Rel K env' σ Fz' H' F' → Stp Fz H (Own F) Fz' H' (Own F') → IsW K J items w σ Fz' → R J H') → t σ H R
end

mutual
theorem sameD_eq : ∀ (a b : D), sameD a b = true → a = b
  | .none, b, h => by cases b <;> first | rfl | (unfold sameD at h; cases h)
  | .bool x, b, h => by
    cases b <;> unfold sameD at h <;> first | cases h | skip
    have := eq_of_beq h
    rw [this]
  | .int x, b, h => by
    cases b <;> unfold sameD at h <;> first | cases h | skip
    have := eq_of_beq h
    rw [this]
  | .str x, b, h => by
    cases b <;> unfold sameD at h <;> first | cases h | skip
    have := of_decide_eq_true h
    rw [this]
  | .list x, b, h => by
    cases b <;> unfold sameD at h <;> first | cases h | skip
    rw [sameDs_eq _ _ h]
  | .tuple x, b, h => by
    cases b <;> unfold sameD at h <;> first | cases h | skip
    rw [sameDs_eq _ _ h]
  | .dict x, b, h => by cases b <;> unfold sameD at h <;> cases h
theorem sameDs_eq : ∀ (a b : List D), sameDs a b = true → a = b
  | [], b, h => by
    cases b with
    | nil => rfl
    | cons _ _ => unfold sameDs at h; cases h
  | a :: as, b, h => by
    cases b with
    | nil => unfold sameDs at h; cases h
    | cons b bs =>
      unfold sameDs at h
      simp only [Bool.and_eq_true] at h
      rw [sameD_eq _ _ h.1, sameDs_eq _ _ h.2]
end

section
variable {K : PySem.W.Frag} {env env' : Env} {σ : L2.St} {Fz H Fz' H' : Hp} {F F' : Nat → List Addr} {t ta tb tc : TE}

theorem watch_rel (R : Rel K env σ Fz H F) {w : Option (Nat × List D)} (h : watch w env = true) : WatchR K w σ Fz H := by
  unfold watch at h
  unfold WatchR
  cases w with
  | none => trivial
  | some p =>
    obtain ⟨i, xs⟩ := p
    simp only at h ⊢
    cases q : look env i with
    | none => rw [q] at h; cases h
    | some o =>
      rw [q] at h
      cases o with
      | d x => cases h
      | lst os =>
        simp only at h
        cases q2 : datas os with
        | none => rw [q2] at h; cases h
        | some ys =>
          rw [q2] at h
          have e := sameDs_eq _ _ h
          subst e
          obtain ⟨v, k1, k2⟩ := R.sl i _ q
          unfold RepO at k2
          obtain ⟨a, vs, B, rfl, h1, _, h2⟩ := k2
          exact ⟨a, vs, k1, SqL.of h1, datas_rep os _ vs B q2 h2⟩
theorem IsW.wipe {J : It} {items : List Item} {w : Option (Nat × List D)} {vs : List Nat} (h : IsW K J items w σ Fz) : IsW K J items w (L2.wipe σ vs) Fz := by
  intro Fz' H e1 e2 hw
  refine h Fz' H e1 e2 ?_
  unfold WatchR at hw ⊢
  cases w with
  | none => trivial
  | some p =>
    obtain ⟨i, xs⟩ := p
    obtain ⟨a, us, h1, h2⟩ := hw
    exact ⟨a, us, (L2.wipe_some h1).1, h2⟩
theorem Reps.getN {ds : List D} {vs : List V} (r : Reps K Fz ds vs) {i : Nat} {v : V} (h : vs[i]? = some v) : ∃ d, ds[i]? = some d ∧ Rep K Fz d v := by
  have l := Reps.length _ _ r
  have hi : i < ds.length := by
    by_cases q : i < vs.length
    · omega
    · rw [List.getElem?_eq_none (by omega)] at h; cases h
  obtain ⟨v', h1, h2⟩ := Reps.get _ _ i _ r (List.getElem?_eq_getElem hi)
  rw [h] at h1
  cases h1
  exact ⟨_, List.getElem?_eq_getElem hi, h2⟩
/-- a list that stays -/
theorem isw_list {a : Addr} {xs : List D} {vs : List V} (h : SqL K Fz a vs) (r : Reps K Fz xs vs) : IsW K (Itl K a) (xs.map .one) none σ Fz := by
  intro Fz' H e1 e2 _ i
  have h2 := Same.sqL (e1.trans e2) h
  have l := Reps.length _ _ r
  refine ⟨fun hi => ⟨vs, h2, by rw [List.length_map] at hi; omega⟩, fun x hx => ?_⟩
  rw [List.getElem?_map] at hx
  cases q : xs[i]? with
  | none => rw [q] at hx; cases hx
  | some d =>
    rw [q] at hx
    cases hx
    obtain ⟨v, hv, rv⟩ := Reps.get _ _ i d r q
    refine ⟨⟨vs, v, h2, hv⟩, fun u H' y => ⟨y.1, ?_⟩⟩
    have := y.2 vs h2
    rw [hv] at this
    cases this
    exact Rep.mono e1 _ _ rv
theorem isw_tup {a : Addr} {xs : List D} {vs : List V} (h : SqT K Fz a vs) (r : Reps K Fz xs vs) : IsW K (Itt K a) (xs.map .one) none σ Fz := by
  intro Fz' H e1 e2 _ i
  have h2 := Same.sqT (e1.trans e2) h
  have l := Reps.length _ _ r
  refine ⟨fun hi => ⟨vs, h2, by rw [List.length_map] at hi; omega⟩, fun x hx => ?_⟩
  rw [List.getElem?_map] at hx
  cases q : xs[i]? with
  | none => rw [q] at hx; cases hx
  | some d =>
    rw [q] at hx
    cases hx
    obtain ⟨v, hv, rv⟩ := Reps.get _ _ i d r q
    refine ⟨⟨vs, v, h2, hv⟩, fun u H' y => ⟨y.1, ?_⟩⟩
    have := y.2 vs h2
    rw [hv] at this
    cases this
    exact Rep.mono e1 _ _ rv
/-- a slot's own list -/
theorem isw_own {a : Addr} {j : Nat} {xs : List D} (hj : σ[j]? = some (some (.ref a))) : IsW K (Itl K a) (xs.map .one) (some (j, xs)) σ Fz := by
  intro Fz' H e1 e2 hw i
  obtain ⟨b, vs, h1, h2, r⟩ := hw
  rw [hj] at h1
  cases h1
  have l := Reps.length _ _ r
  refine ⟨fun hi => ⟨vs, h2, by rw [List.length_map] at hi; omega⟩, fun x hx => ?_⟩
  rw [List.getElem?_map] at hx
  cases q : xs[i]? with
  | none => rw [q] at hx; cases hx
  | some d =>
    rw [q] at hx
    cases hx
    obtain ⟨v, hv, rv⟩ := Reps.get _ _ i d r q
    refine ⟨⟨vs, v, h2, hv⟩, fun u H' y => ⟨y.1, ?_⟩⟩
    have := y.2 vs h2
    rw [hv] at this
    cases this
    exact rv
/-- a list or a tuple as data, walked -/
theorem snd_sSeq {f : M O} (h : SndV K t f) : SndS K (iSeqA K t) (sSeq f) := by
  intro env σ Fz H F R items w env' e Rc q
  unfold sSeq at e
  split at e
  case h_2 => cases e
  rename_i o env1 e1
  cases q1 : asSeq (.d o.toD) with
  | none => rw [q1] at e; cases e
  | some xs =>
    rw [q1] at e
    cases e
    generalize hd : o.toD = d at q1
    cases d with
    | list ys =>
      have q1 : some ys = some xs := q1
      cases q1
      refine .inl (h env σ Fz H F R _ _ e1 _ fun v H' a => ?_)
      obtain ⟨Fz1, F1, R1, S1, r1⟩ := a.frz
      rw [hd] at r1
      unfold Rep at r1
      obtain ⟨p, vs, rfl, h1, h2⟩ := r1
      exact ⟨p, rfl, ⟨vs, Same.sqL R1.sub h1⟩, q _ _ Fz1 F1 R1 S1 (isw_list h1 h2)⟩
    | tuple ys =>
      have q1 : some ys = some xs := q1
      cases q1
      refine .inr (h env σ Fz H F R _ _ e1 _ fun v H' a => ?_)
      obtain ⟨Fz1, F1, R1, S1, r1⟩ := a.frz
      rw [hd] at r1
      unfold Rep at r1
      obtain ⟨p, vs, rfl, h1, h2⟩ := r1
      exact ⟨p, rfl, ⟨vs, (h1.mono R1.sub).sqT⟩, q _ _ Fz1 F1 R1 S1 (isw_tup h1.sqT h2)⟩
    | _ => cases q1
theorem snd_sVar (i : Nat) : SndS K (iSeqA K (tVar i)) (sVar i) := by
  intro env σ Fz H F R items w env' e Rc q
  unfold sVar at e
  cases h : look env i with
  | none => rw [h] at e; cases e
  | some o =>
    rw [h] at e
    cases o with
    | lst os =>
      simp only at e
      cases h2 : datas os with
      | none =>
        rw [h2] at e
        cases e
        obtain ⟨v, Fz', hv, R', S, r⟩ := R.frzSlot h
        have r : Rep K Fz' (.list (O.toDs os)) v := r
        unfold Rep at r
        obtain ⟨a, vs, rfl, s1, s2⟩ := r
        exact .inl ⟨_, hv, a, rfl, ⟨vs, Same.sqL R'.sub s1⟩, q _ _ _ _ R' S (isw_list s1 s2)⟩
      | some xs =>
        rw [h2] at e
        cases e
        obtain ⟨v, hv, r⟩ := R.sl i _ h
        unfold RepO at r
        obtain ⟨a, vs, B, rfl, s1, _, s2⟩ := r
        exact .inl ⟨_, hv, a, rfl, ⟨vs, SqL.of s1⟩, q _ _ _ _ R Stp.refl (isw_own hv)⟩
    | d x =>
      simp only at e
      cases h2 : asSeq (.d x) with
      | none => rw [h2] at e; cases e
      | some xs =>
        rw [h2] at e
        cases e
        obtain ⟨v, hv, r⟩ := R.slotD h
        cases x with
        | list ys =>
          have h2 : some ys = some xs := h2
          cases h2
          unfold Rep at r
          obtain ⟨a, vs, rfl, s1, s2⟩ := r
          exact .inl ⟨_, hv, a, rfl, ⟨vs, Same.sqL R.sub s1⟩, q _ _ _ _ R Stp.refl (isw_list s1 s2)⟩
        | tuple ys =>
          have h2 : some ys = some xs := h2
          cases h2
          unfold Rep at r
          obtain ⟨a, vs, rfl, s1, s2⟩ := r
          exact .inr ⟨_, hv, a, rfl, ⟨vs, (s1.mono R.sub).sqT⟩, q _ _ _ _ R Stp.refl (isw_tup s1.sqT s2)⟩
        | _ => cases h2

/-! ### ranges -/
theorem rngV_get {a b : Int} {i : Nat} {x : Item} (h : ((rngV a b).map Item.one)[i]? = some x) : i < (b - a).toNat ∧ x = .one (.int (a + (i : Nat))) := by
  unfold rngV at h
  rw [List.map_map, List.getElem?_map] at h
  cases q : (List.range (b - a).toNat)[i]? with
  | none => rw [q] at h; cases h
  | some k =>
    rw [q] at h
    cases h
    have hi : i < (b - a).toNat := by
      by_cases z : i < (b - a).toNat
      · exact z
      · rw [List.getElem?_eq_none (by simpa using z)] at q; cases q
    rw [List.getElem?_range hi] at q
    cases q
    exact ⟨hi, rfl⟩
theorem isw_rng (a b : Int) : IsW K (Itr a (b - a).toNat) ((rngV a b).map .one) none σ Fz := by
  intro Fz' H e1 e2 _ i
  refine ⟨fun hi => ?_, fun x hx => ?_⟩
  · rw [List.length_map, rngV, List.length_map, List.length_range] at hi
    exact Nat.le_of_eq hi
  · obtain ⟨h1, rfl⟩ := rngV_get hx
    exact ⟨h1, fun v H' y => ⟨y.1, by rw [y.2]; unfold Rep; rfl⟩⟩
theorem rngDn_get {a b : Int} {i : Nat} {x : Item} (h : ((rngDn a b).map Item.one)[i]? = some x) : i < (a - b).toNat ∧ x = .one (.int (a - (i : Nat))) := by
  unfold rngDn at h
  rw [List.map_map, List.getElem?_map] at h
  cases q : (List.range (a - b).toNat)[i]? with
  | none => rw [q] at h; cases h
  | some k =>
    rw [q] at h
    cases h
    have hi : i < (a - b).toNat := by
      by_cases z : i < (a - b).toNat
      · exact z
      · rw [List.getElem?_eq_none (by simpa using z)] at q; cases q
    rw [List.getElem?_range hi] at q
    cases q
    exact ⟨hi, rfl⟩
theorem isw_rngDn (a b : Int) : IsW K (Itc a (-1) (a - b).toNat) ((rngDn a b).map .one) none σ Fz := by
  intro Fz' H e1 e2 _ i
  refine ⟨fun hi => ?_, fun x hx => ?_⟩
  · rw [List.length_map, rngDn, List.length_map, List.length_range] at hi
    exact Nat.le_of_eq hi
  · obtain ⟨h1, rfl⟩ := rngDn_get hx
    refine ⟨h1, fun v H' y => ⟨y.1, ?_⟩⟩
    rw [y.2]
    unfold Rep
    rw [Int.mul_neg, Int.mul_one, Int.sub_eq_add_neg]
theorem smallI_ok {i : Int} (h : smallI i = true) : -(2 ^ 62) ≤ i ∧ i < 2 ^ 62 := by
  unfold smallI at h
  simp only [Bool.and_eq_true, decide_eq_true_eq] at h
  exact h
theorem snd_rng1 {a : M O} (ha : SndV K ta a) : SndS K (iRng1 (tCons ta tNil)) (sRng1 a) := by
  intro env σ Fz H F R items w env' e Rc q
  unfold sRng1 at e
  split at e
  case h_2 => cases e
  rename_i j env1 e1
  obtain ⟨g, e⟩ := guardB_some e
  cases e
  refine ha env σ Fz H F R _ _ e1 _ fun v H' a => ?_
  obtain ⟨rfl, Fz1, F1, R1, S1⟩ := a.intU
  obtain ⟨b1, b2⟩ := smallI_ok g
  refine ⟨j, rfl, b1, b2, q _ _ Fz1 F1 R1 S1 ?_⟩
  have := isw_rng (K := K) (σ := σ) (Fz := Fz1) 0 j
  rw [Int.sub_zero] at this
  exact this
theorem snd_rng2 {a b : M O} (ha : SndV K ta a) (hb : SndV K tb b) : SndS K (iRng2 (tCons ta (tCons tb tNil))) (sRng2 a b) := by
  intro env σ Fz H F R items w env' e Rc q
  unfold sRng2 at e
  split at e
  case h_2 => cases e
  rename_i i env1 e1
  split at e
  case h_2 => cases e
  rename_i j env2 e2
  obtain ⟨g, e⟩ := guardB_some e
  cases e
  simp only [Bool.and_eq_true] at g
  refine ha env σ Fz H F R _ _ e1 _ fun v H1 a => ?_
  obtain ⟨rfl, Fz1, F1, R1, S1⟩ := a.intU
  refine hb env1 σ Fz1 H1 F1 R1 _ _ e2 _ fun v H2 a => ?_
  obtain ⟨rfl, Fz2, F2, R2', S2⟩ := a.intU
  obtain ⟨b1, b2⟩ := smallI_ok g.1
  obtain ⟨b3, b4⟩ := smallI_ok g.2
  exact ⟨i, j, rfl, ⟨b1, b2, b3, b4⟩, q _ _ Fz2 F2 R2' (S1.trans S2) (isw_rng i j)⟩
theorem snd_rng3 {a b c : M O} (ha : SndV K ta a) (hb : SndV K tb b) (hc : SndV K tc c) : SndS K (iRng3 (tCons ta (tCons tb (tCons tc tNil)))) (sRng3 a b c) := by
  intro env σ Fz H F R items w env' e Rc q
  unfold sRng3 at e
  split at e
  case h_2 => cases e
  rename_i i env1 e1
  split at e
  case h_2 => cases e
  rename_i j env2 e2
  split at e
  case h_2 => cases e
  rename_i k env3 e3
  obtain ⟨g, e⟩ := guardB_some e
  cases e
  simp only [Bool.and_eq_true, decide_eq_true_eq] at g
  refine ha env σ Fz H F R _ _ e1 _ fun v H1 a => ?_
  obtain ⟨rfl, Fz1, F1, R1, S1⟩ := a.intU
  refine hb env1 σ Fz1 H1 F1 R1 _ _ e2 _ fun v H2 a => ?_
  obtain ⟨rfl, Fz2, F2, R2', S2⟩ := a.intU
  refine hc env2 σ Fz2 H2 F2 R2' _ _ e3 _ fun v H3 a => ?_
  obtain ⟨rfl, Fz3, F3, R3, S3⟩ := a.intU
  obtain ⟨b1, b2⟩ := smallI_ok g.1.1
  obtain ⟨b3, b4⟩ := smallI_ok g.1.2
  obtain rfl := g.2
  exact ⟨i, j, -1, _, rfl, RgC.neg b1 b2 b3 b4, q _ _ Fz3 F3 R3 (S1.trans (S2.trans S3)) (isw_rngDn i j)⟩

/-! ### enumerate, zip -/
theorem enumR_length (xs : List D) : (enumR xs).length = xs.length := by unfold enumR; rw [List.length_map, List.length_zipIdx]
theorem enumR_get {xs : List D} {i : Nat} {x : Item} (h : (enumR xs)[i]? = some x) : ∃ d, xs[i]? = some d ∧ x = .row [.int (i : Nat), d] := by
  unfold enumR at h
  rw [List.getElem?_map, List.getElem?_zipIdx] at h
  cases q : xs[i]? with
  | none => rw [q] at h; cases h
  | some d =>
    rw [q] at h
    simp at h
    exact ⟨d, rfl, h.symm⟩
theorem isw_enumL {a : Addr} {xs : List D} {vs : List V} (h : SqL K Fz a vs) (r : Reps K Fz xs vs) : IsW K (Ite K a) (enumR xs) none σ Fz := by
  intro Fz' H e1 e2 _ i
  have h2 := Same.sqL (e1.trans e2) h
  have l := Reps.length _ _ r
  refine ⟨fun hi => ⟨vs, h2, by rw [enumR_length] at hi; omega⟩, fun x hx => ?_⟩
  obtain ⟨d, q, rfl⟩ := enumR_get hx
  obtain ⟨v, hv, rv⟩ := Reps.get _ _ i d r q
  refine ⟨⟨vs, v, h2, hv⟩, fun u H' y => ?_⟩
  obtain ⟨T, w, y1, y2, y3, y4⟩ := y
  have := y4 vs h2
  rw [hv] at this
  cases this
  exact ⟨T, _, y1, y2, y3, Reps.cons (by unfold Rep; rfl) (Reps.cons (Rep.mono e1 _ _ rv) Reps.nil)⟩
theorem isw_enumT {a : Addr} {xs : List D} {vs : List V} (h : SqT K Fz a vs) (r : Reps K Fz xs vs) : IsW K (IteA K a) (enumR xs) none σ Fz := by
  intro Fz' H e1 e2 _ i
  have h2 := Same.sqT (e1.trans e2) h
  have l := Reps.length _ _ r
  refine ⟨fun hi => ⟨vs, h2, by rw [enumR_length] at hi; omega⟩, fun x hx => ?_⟩
  obtain ⟨d, q, rfl⟩ := enumR_get hx
  obtain ⟨v, hv, rv⟩ := Reps.get _ _ i d r q
  refine ⟨⟨vs, v, h2, hv⟩, fun u H' y => ?_⟩
  obtain ⟨T, w, y1, y2, y3, y4⟩ := y
  have := y4 vs h2
  rw [hv] at this
  cases this
  exact ⟨T, _, y1, y2, y3, Reps.cons (by unfold Rep; rfl) (Reps.cons (Rep.mono e1 _ _ rv) Reps.nil)⟩
theorem snd_enum {a : M O} (ha : SndV K ta a) : SndS K (iEnumA K (tCons ta tNil)) (sEnum a) := by
  intro env σ Fz H F R items w env' e Rc q
  unfold sEnum at e
  split at e
  case h_2 => cases e
  rename_i o env1 e1
  cases q1 : asSeq (.d o.toD) with
  | none => rw [q1] at e; cases e
  | some xs =>
    rw [q1] at e
    cases e
    generalize hd : o.toD = d at q1
    refine ha env σ Fz H F R _ _ e1 _ fun v H' a => ?_
    obtain ⟨Fz1, F1, R1, S1, r1⟩ := a.frz
    rw [hd] at r1
    cases d with
    | list ys =>
      have q1 : some ys = some xs := q1
      cases q1
      unfold Rep at r1
      obtain ⟨p, vs, rfl, h1, h2⟩ := r1
      exact ⟨p, vs, rfl, .inl ⟨Same.sqL R1.sub h1, q _ _ Fz1 F1 R1 S1 (isw_enumL h1 h2)⟩⟩
    | tuple ys =>
      have q1 : some ys = some xs := q1
      cases q1
      unfold Rep at r1
      obtain ⟨p, vs, rfl, h1, h2⟩ := r1
      exact ⟨p, vs, rfl, .inr ⟨(h1.mono R1.sub).sqT, q _ _ Fz1 F1 R1 S1 (isw_enumT h1.sqT h2)⟩⟩
    | _ => cases q1
theorem zipR_get {ps : List (D × D)} {i : Nat} {x : Item} (h : (zipR ps)[i]? = some x) : ∃ d e, ps[i]? = some (d, e) ∧ x = .row [d, e] := by
  unfold zipR at h
  rw [List.getElem?_map] at h
  cases q : ps[i]? with
  | none => rw [q] at h; cases h
  | some p =>
    rw [q] at h
    cases h
    exact ⟨p.1, p.2, rfl, rfl⟩
theorem zip_get {xs ys : List D} {i : Nat} {d e : D} (h : (xs.zip ys)[i]? = some (d, e)) : xs[i]? = some d ∧ ys[i]? = some e := by
  rw [List.getElem?_zip_eq_some] at h
  exact h
theorem isw_zipL {a b : Addr} {xs ys : List D} {vs us : List V} (h : SqL K Fz a vs) (h' : SqL K Fz b us) (r : Reps K Fz xs vs) (r' : Reps K Fz ys us) : IsW K (Itz K a b) (zipR (xs.zip ys)) none σ Fz := by
  intro Fz' H e1 e2 _ i
  have h2 := Same.sqL (e1.trans e2) h
  have h3 := Same.sqL (e1.trans e2) h'
  have l := Reps.length _ _ r
  have l' := Reps.length _ _ r'
  refine ⟨fun hi => ⟨vs, us, h2, h3, ?_⟩, fun x hx => ?_⟩
  · unfold zipR at hi
    rw [List.length_map, List.length_zip] at hi
    omega
  obtain ⟨d, e, q, rfl⟩ := zipR_get hx
  obtain ⟨q1, q2⟩ := zip_get q
  obtain ⟨v, hv, rv⟩ := Reps.get _ _ i d r q1
  obtain ⟨u, hu, ru⟩ := Reps.get _ _ i e r' q2
  refine ⟨⟨vs, us, v, u, h2, h3, hv, hu⟩, fun w H' y => ?_⟩
  obtain ⟨T, w1, w2, y1, y2, y3, y4, y5⟩ := y
  have := y4 vs h2
  rw [hv] at this
  cases this
  have := y5 us h3
  rw [hu] at this
  cases this
  exact ⟨T, _, y1, y2, y3, Reps.cons (Rep.mono e1 _ _ rv) (Reps.cons (Rep.mono e1 _ _ ru) Reps.nil)⟩
theorem isw_zipT {a b : Addr} {xs ys : List D} {vs us : List V} (h : SqT K Fz a vs) (h' : SqT K Fz b us) (r : Reps K Fz xs vs) (r' : Reps K Fz ys us) : IsW K (RZ.ItzT K a b) (zipR (xs.zip ys)) none σ Fz := by
  intro Fz' H e1 e2 _ i
  have h2 := Same.sqT (e1.trans e2) h
  have h3 := Same.sqT (e1.trans e2) h'
  have l := Reps.length _ _ r
  have l' := Reps.length _ _ r'
  refine ⟨fun hi => ⟨vs, us, h2, h3, ?_⟩, fun x hx => ?_⟩
  · unfold zipR at hi
    rw [List.length_map, List.length_zip] at hi
    omega
  obtain ⟨d, e, q, rfl⟩ := zipR_get hx
  obtain ⟨q1, q2⟩ := zip_get q
  obtain ⟨v, hv, rv⟩ := Reps.get _ _ i d r q1
  obtain ⟨u, hu, ru⟩ := Reps.get _ _ i e r' q2
  refine ⟨⟨vs, us, v, u, h2, h3, hv, hu⟩, fun w H' y => ?_⟩
  obtain ⟨T, w1, w2, y1, y2, y3, y4, y5⟩ := y
  have := y4 vs h2
  rw [hv] at this
  cases this
  have := y5 us h3
  rw [hu] at this
  cases this
  exact ⟨T, _, y1, y2, y3, Reps.cons (Rep.mono e1 _ _ rv) (Reps.cons (Rep.mono e1 _ _ ru) Reps.nil)⟩
theorem snd_zip {a b : M O} (ha : SndV K ta a) (hb : SndV K tb b) : SndS K (RZ.iZipA K (tCons ta (tCons tb tNil))) (sZip a b) := by
  intro env σ Fz H F R items w env' e Rc q
  unfold sZip at e
  split at e
  case h_2 => cases e
  rename_i o env1 e1
  split at e
  case h_2 => cases e
  rename_i o' env2 e2
  refine ha env σ Fz H F R _ _ e1 _ fun v H1 a1 => ?_
  obtain ⟨Fz1, F1, R1, S1, r1⟩ := a1.frz
  refine hb env1 σ Fz1 H1 F1 R1 _ _ e2 _ fun v' H2 a2 => ?_
  obtain ⟨Fz2, F2, R2', S2, r2⟩ := a2.frz
  have r1 := Rep.mono S2.fz _ _ r1
  cases q1 : zipf o.toD o'.toD with
  | none => rw [q1] at e; cases e
  | some ps =>
    rw [q1] at e
    cases e
    generalize o.toD = d at q1 r1
    generalize o'.toD = d' at q1 r2
    unfold zipf at q1
    split at q1
    · cases q1
      unfold Rep at r1 r2
      obtain ⟨p, vs, rfl, h1, h2⟩ := r1
      obtain ⟨p', vs', rfl, h1', h2'⟩ := r2
      exact ⟨p, p', vs, vs', rfl, .inl ⟨Same.sqL R2'.sub h1, Same.sqL R2'.sub h1', q _ _ Fz2 F2 R2' (S1.trans S2) (isw_zipL h1 h1' h2 h2')⟩⟩
    · cases q1
      unfold Rep at r1 r2
      obtain ⟨p, vs, rfl, h1, h2⟩ := r1
      obtain ⟨p', vs', rfl, h1', h2'⟩ := r2
      exact ⟨p, p', vs, vs', rfl, .inr ⟨(h1.mono R2'.sub).sqT, (h1'.mono R2'.sub).sqT, q _ _ Fz2 F2 R2' (S1.trans S2) (isw_zipT h1.sqT h1'.sqT h2 h2')⟩⟩
    · cases q1

/-! ### stores -/
theorem Rel.put {B : List Addr} {o : O} {v : V} {i : Nat} (R : Rel K env σ Fz H F) (r : RepO K Fz H o v B) (nd : B.Nodup) (hb : ∀ b ∈ B, ¬ Own F b ∧ Fz b = none) :
    Rel K (env.set i (some o)) (σ.set i (some v)) Fz H (fun j => if j = i then (if i < env.length then B else []) else F j) := by
  refine ⟨R.sub, by rw [List.length_set, List.length_set]; exact R.len, fun j x e => ?_, fun j e => ?_, fun j => ?_, fun j k a h1 h2 => ?_, fun j a h => ?_⟩
  · rw [look_set] at e
    by_cases hj : i = j
    · subst hj
      by_cases hi : i < env.length
      · rw [if_pos ⟨rfl, hi⟩] at e
        cases e
        refine ⟨v, by rw [List.getElem?_set_self (by rw [← R.len]; exact hi)], ?_⟩
        rw [if_pos rfl, if_pos hi]
        exact r
      · rw [if_neg fun z => hi z.2] at e
        exact absurd (look_lt e) hi
    · rw [if_neg fun z => hj z.1] at e
      obtain ⟨w, h1, h2⟩ := R.sl j x e
      rw [if_neg (Ne.symm hj)]
      exact ⟨w, by rw [List.getElem?_set_ne hj]; exact h1, h2⟩
  · rw [look_set] at e
    show (if j = i then (if i < env.length then B else []) else F j) = []
    by_cases hj : i = j
    · subst hj
      by_cases hi : i < env.length
      · rw [if_pos ⟨rfl, hi⟩] at e; cases e
      · rw [if_pos rfl, if_neg hi]
    · rw [if_neg fun z => hj z.1] at e
      rw [if_neg (Ne.symm hj)]
      exact R.no j e
  · show (if j = i then (if i < env.length then B else []) else F j).Nodup
    split
    · split
      · exact nd
      · exact List.nodup_nil
    · exact R.nd j
  · have h1 : a ∈ (if j = i then (if i < env.length then B else []) else F j) := h1
    have h2 : a ∈ (if k = i then (if i < env.length then B else []) else F k) := h2
    split at h1
    · rename_i e1
      split at h1
      · split at h2
        · rename_i e2; rw [e1, e2]
        · exact absurd ⟨k, h2⟩ (hb a h1).1
      · exact absurd h1 List.not_mem_nil
    · split at h2
      · split at h2
        · exact absurd ⟨j, h1⟩ (hb a h2).1
        · exact absurd h2 List.not_mem_nil
      · exact R.dj j k a h1 h2
  · have h : a ∈ (if j = i then (if i < env.length then B else []) else F j) := h
    split at h
    · split at h
      · exact (hb a h).2
      · exact absurd h List.not_mem_nil
    · exact R.fz j a h
theorem own_put {B : List Addr} {i n : Nat} {a : Addr} (h : Own (fun j => if j = i then (if i < n then B else []) else F j) a) : Own F a ∨ a ∈ B := by
  obtain ⟨j, h⟩ := h
  have h : a ∈ (if j = i then (if i < n then B else []) else F j) := h
  split at h
  · split at h
    · exact .inr h
    · exact absurd h List.not_mem_nil
  · exact .inl ⟨j, h⟩
/-- frozen data is stored -/
theorem Rel.putD {d : D} {v : V} {i : Nat} (R : Rel K env σ Fz H F) (r : Rep K Fz d v) : ∃ F1, Rel K (env.set i (some (.d d))) (σ.set i (some v)) Fz H F1 ∧ ∀ a, Own F1 a → Own F a :=
  ⟨_, R.put (B := []) (o := .d d) (v := v) (i := i) (by unfold RepO; exact ⟨rfl, r⟩) List.nodup_nil fun b q => absurd q List.not_mem_nil, fun a h => (own_put h).elim id fun q => absurd q List.not_mem_nil⟩
/-- several -/
theorem put_all : ∀ (is : List Nat) (ds : List D) (vs : List V) (env : Env) (σ : L2.St) (F : Nat → List Addr), Rel K env σ Fz H F → Reps K Fz ds vs → is.length = ds.length → ∀ (W : List Nat), (∀ i ∈ is, i ∈ W) → ∀ Q : L2.St → Hp → Prop,
    (∀ σ1 F1, Rel K (stAll is (ds.map .d) env) σ1 Fz H F1 → (∀ a, Own F1 a → Own F a) → (∀ j, j ∉ W → σ1[j]? = σ[j]?) → σ1.length = σ.length → Q σ1 H) → gAll is vs σ H Q
  | [], ds, vs, env, σ, F, R, r, l, W, hW, Q, q => by
    cases ds with
    | nil =>
      unfold Reps at r
      exact ⟨r, q σ F R (fun _ h => h) (fun _ _ => rfl) rfl⟩
    | cons _ _ => cases l
  | i :: is, ds, vs, env, σ, F, R, r, l, W, hW, Q, q => by
    cases ds with
    | nil => cases l
    | cons d ds =>
      unfold Reps at r
      obtain ⟨v, r', rfl, h1, h2⟩ := r
      obtain ⟨F1, R1, o1⟩ := R.putD (i := i) h1
      refine ⟨v, r', rfl, put_all is ds r' _ _ F1 R1 h2 (by simpa using l) W (fun j hj => hW j (List.mem_cons_of_mem _ hj)) Q fun σ1 F2 R2' o2 k1 k2 => q σ1 F2 R2' (fun a h => o1 a (o2 a h)) (fun j hj => ?_) (by rw [k2, List.length_set])⟩
      rw [k1 j hj, List.getElem?_set_ne (show i ≠ j from fun z => hj (by rw [← z]; exact hW i List.mem_cons_self))]
theorem tgSub_mem {is : List Nat} {vs : List Nat} (h : is.all vs.contains = true) : ∀ i ∈ is, i ∈ vs := fun i hi => by
  have := List.all_eq_true.mp h i hi
  simpa using this
theorem snd_tg {tg : Tg} {x : Item} {v : V} {env1 : Env} (R : Rel K env σ Fz H F) (hx : ItemR K Fz H x v H') (e : stTg tg x env = some env1) (Q : L2.St → Hp → Prop) {W : List Nat} (hW : tgSub tg W = true)
    (q : ∀ σ1 F1, Rel K env1 σ1 Fz H' F1 → Stp Fz H (Own F) Fz H' (Own F1) → (∀ j, j ∉ W → σ1[j]? = σ[j]?) → σ1.length = σ.length → Q σ1 H') : trTg K tg v σ H' Q := by
  have stp : ∀ F1, (∀ a, Own F1 a → Own F a) → Stp Fz H (Own F) Fz H (Own F1) := fun F1 h => Stp.refl.mono h
  unfold stTg at e
  split at e
  · rename_i i d
    cases e
    obtain ⟨rfl, r⟩ := hx
    obtain ⟨F1, R1, o1⟩ := R.putD (i := i) r
    refine q _ F1 R1 (stp F1 o1) (fun j hj => ?_) (by rw [List.length_set])
    rw [List.getElem?_set_ne (show i ≠ j from fun z => hj (by rw [← z]; simpa [tgSub] using hW))]
  · rename_i is xs
    split at e
    · rename_i hl
      cases e
      obtain ⟨rfl, r⟩ := hx
      unfold Rep at r
      obtain ⟨a, vs, rfl, h1, h2⟩ := r
      have l := Reps.length _ _ h2
      exact ⟨a, vs, rfl, (h1.mono R.sub).sqT, by omega, put_all is xs vs env σ F R h2 hl W (tgSub_mem hW) Q fun σ1 F1 R1 o1 k1 k2 => q σ1 F1 R1 (stp F1 o1) k1 k2⟩
    · cases e
  · rename_i is xs
    split at e
    · rename_i hl
      cases e
      obtain ⟨T, vs, rfl, hT, rfl, h2⟩ := hx
      have l := Reps.length _ _ h2
      have up := Same.upd (u := .tup vs) hT
      have R' := R.grow (Same.refl _) (R.sub.trans up) up (fun a z => .inl z)
      exact ⟨T, vs, rfl, .inl (.inl upd_same), by omega, put_all is xs vs env σ F R' h2 hl W (tgSub_mem hW) Q fun σ1 F1 R1 o1 k1 k2 => q σ1 F1 R1 ⟨Same.refl _, fun a u h _ => up a u h, fun a h => Same.ne up h, fun a h => .inl (o1 a h), fun a h => .inl h⟩ k1 k2⟩
    · cases e
  · cases e
end
end PD
end

section
set_option Elab.async false
set_option linter.all false
set_option maxRecDepth 100000
set_option maxHeartbeats 1000000
/-! PD: soundness of comprehensions. -/
namespace PD
open PySem PySem.Spec PyProof.Rows L2

/-! ### forgetting slots -/
theorem look_wipe {env : Env} {i : Nat} : ∀ {vs : List Nat}, look (wipe env vs) i = if i ∈ vs then none else look env i
  | [] => by rw [if_neg List.not_mem_nil]; rfl
  | v :: vs => by
    unfold wipe
    rw [look_set, look_wipe (vs := vs)]
    by_cases h : v = i
    · subst h
      by_cases hl : v < (wipe env vs).length
      · rw [if_pos ⟨rfl, hl⟩, if_pos List.mem_cons_self]
      · rw [if_neg fun z => hl z.2, if_pos List.mem_cons_self]
        split
        · rfl
        · rename_i hv
          cases q : look env v with
          | none => rfl
          | some o =>
            exfalso
            have := look_lt q
            have l : ∀ ws : List Nat, (wipe env ws).length = env.length := by
              intro ws
              induction ws with
              | nil => rfl
              | cons w ws ih => unfold wipe; rw [List.length_set, ih]
            rw [l] at hl
            exact hl this
    · rw [if_neg fun z => h z.1]
      by_cases hm : i ∈ vs
      · rw [if_pos hm, if_pos (List.mem_cons_of_mem _ hm)]
      · rw [if_neg hm, if_neg fun z => (List.mem_cons.mp z).elim (fun e => h e.symm) hm]
theorem wipe_len {env : Env} : ∀ vs : List Nat, (wipe env vs).length = env.length
  | [] => rfl
  | v :: vs => by unfold wipe; rw [List.length_set, wipe_len vs]
theorem back_len {old env : Env} : ∀ vs : List Nat, (back old env vs).length = env.length
  | [] => rfl
  | v :: vs => by unfold back; rw [List.length_set, back_len vs]
theorem look_back {old env : Env} {i : Nat} (hl : old.length = env.length) : ∀ {vs : List Nat}, look (back old env vs) i = if i ∈ vs then look old i else look env i
  | [] => by rw [if_neg List.not_mem_nil]; rfl
  | v :: vs => by
    unfold back
    rw [look_set, look_back hl (vs := vs), back_len]
    by_cases h : v = i
    · subst h
      by_cases hv : v < env.length
      · rw [if_pos ⟨rfl, hv⟩, if_pos List.mem_cons_self]
        rfl
      · have n1 : look old v = none := by
          cases q : look old v with
          | none => rfl
          | some o => exact absurd (look_lt q) (by omega)
        have n2 : look env v = none := by
          cases q : look env v with
          | none => rfl
          | some o => exact absurd (look_lt q) hv
        rw [if_neg fun z => hv z.2, if_pos List.mem_cons_self, n1, n2]
        split <;> rfl
    · rw [if_neg fun z => h z.1]
      by_cases hm : i ∈ vs
      · rw [if_pos hm, if_pos (List.mem_cons_of_mem _ hm)]
      · rw [if_neg hm, if_neg fun z => (List.mem_cons.mp z).elim (fun e => h e.symm) hm]
theorem wipe_in {σ : L2.St} {i : Nat} : ∀ {vs : List Nat}, i ∈ vs → (L2.wipe σ vs)[i]? = (σ[i]?).map fun _ => none
  | [], h => absurd h List.not_mem_nil
  | v :: vs, h => by
    unfold L2.wipe
    by_cases hv : v = i
    · subst hv
      by_cases hl : v < σ.length
      · rw [List.getElem?_set_self (by rw [L2.wipe_length]; exact hl), List.getElem?_eq_getElem hl]; rfl
      · rw [List.getElem?_eq_none (by rw [List.length_set, L2.wipe_length]; omega), List.getElem?_eq_none (by omega)]; rfl
    · rw [List.getElem?_set_ne hv]
      exact wipe_in ((List.mem_cons.mp h).elim (fun e => absurd e.symm hv) id)
theorem wipe_eq {σ σ1 : L2.St} {vs : List Nat} (h : ∀ j, j ∉ vs → σ1[j]? = σ[j]?) (hl : σ1.length = σ.length) : L2.wipe σ1 vs = L2.wipe σ vs := by
  apply List.ext_getElem?
  intro i
  by_cases hi : i ∈ vs
  · rw [wipe_in hi, wipe_in hi]
    by_cases q : i < σ.length
    · rw [List.getElem?_eq_getElem q, List.getElem?_eq_getElem (by omega)]; rfl
    · rw [List.getElem?_eq_none (by omega), List.getElem?_eq_none (by omega)]
  · rw [L2.wipe_out hi, L2.wipe_out hi, h i hi]
theorem wipe_sub {σ : L2.St} {vs vs1 : List Nat} (h : ∀ i ∈ vs1, i ∈ vs) : L2.wipe (L2.wipe σ vs1) vs = L2.wipe σ vs :=
  wipe_eq (fun j hj => L2.wipe_out fun z => hj (h j z)) (L2.wipe_length _ _)

section
variable {K : PySem.W.Frag} {env env' : Env} {σ σ' : L2.St} {Fz H Fz' H' : Hp} {F F' : Nat → List Addr} {t ta tb tc : TE}
def wipeF (F : Nat → List Addr) (vs : List Nat) (i : Nat) : List Addr := if i ∈ vs then [] else F i
theorem own_wipe {vs : List Nat} {a : Addr} (h : Own (wipeF F vs) a) : Own F a := by
  obtain ⟨i, h⟩ := h
  unfold wipeF at h
  split at h
  · exact absurd h List.not_mem_nil
  · exact ⟨i, h⟩
theorem Rel.wipe (R : Rel K env σ Fz H F) (vs : List Nat) : Rel K (wipe env vs) (L2.wipe σ vs) Fz H (wipeF F vs) := by
  refine ⟨R.sub, by rw [wipe_len, L2.wipe_length]; exact R.len, fun i o e => ?_, fun i e => ?_, fun i => ?_, fun i j a h1 h2 => ?_, fun i a h => ?_⟩
  · rw [look_wipe] at e
    split at e
    · cases e
    · rename_i hi
      obtain ⟨v, h1, h2⟩ := R.sl i o e
      refine ⟨v, by rw [L2.wipe_out hi]; exact h1, ?_⟩
      unfold wipeF
      rw [if_neg hi]
      exact h2
  · rw [look_wipe] at e
    unfold wipeF
    split
    · rfl
    · rename_i hi
      rw [if_neg hi] at e
      exact R.no i e
  · unfold wipeF
    split
    · exact List.nodup_nil
    · exact R.nd i
  · unfold wipeF at h1 h2
    split at h1
    · exact absurd h1 List.not_mem_nil
    · split at h2
      · exact absurd h2 List.not_mem_nil
      · exact R.dj i j a h1 h2
  · unfold wipeF at h
    split at h
    · exact absurd h List.not_mem_nil
    · exact R.fz i a h

/-! ### the list that grows -/
structure AccI (K : PySem.W.Frag) (D : Addr) (Fz1 H1 : Hp) (A1 : Addr → Prop) (σ : L2.St) (env : Env) (Fz H : Hp) (F : Nat → List Addr) (os : List O) (acc : List V) (B : List Addr) : Prop where
  R : Rel K env σ Fz H F
  hD : H D = some (.lst acc)
  r : RepOs K Fz H os acc B
  nd : B.Nodup
  hb : ∀ b ∈ B, ¬ Own F b ∧ Fz b = none
  dB : D ∉ B
  dF : ¬ Own F D
  dZ : Fz D = none
  S : Stp Fz1 H1 A1 Fz H (fun a => Own F a ∨ a = D ∨ a ∈ B)
variable {D : Addr} {Fz1 H1 : Hp} {A1 : Addr → Prop} {os : List O} {acc : List V} {B : List Addr}
theorem AccI.alD (I : AccI K D Fz1 H1 A1 σ env Fz H F os acc B) : H D ≠ none := by rw [I.hD]; exact fun z => nomatch z
theorem AccI.start (R : Rel K env σ Fz H F) (hD : H D = none) : AccI K D Fz H (Own F) σ env Fz (upd H D (.lst [])) F [] [] [] := by
  have up := Same.upd (u := .lst []) hD
  have hz : Fz D = none := by
    cases q : Fz D with
    | none => rfl
    | some u => rw [R.sub D u q] at hD; cases hD
  refine ⟨R.grow (Same.refl _) (R.sub.trans up) up (fun a z => .inl z), upd_same, by unfold RepOs; exact ⟨rfl, rfl⟩, List.nodup_nil, fun b q => absurd q List.not_mem_nil, List.not_mem_nil, fun z => R.alive z hD, hz,
    ⟨Same.refl _, fun a u h _ => up a u h, fun a h => Same.ne up h, fun a z => ?_, fun a z => .inl z⟩⟩
  rcases z with z | z | z
  · exact .inl z
  · rw [z]; exact .inr hD
  · exact absurd z List.not_mem_nil
/-- through a step that knows nothing of it -/
theorem AccI.step (I : AccI K D Fz1 H1 A1 σ env Fz H F os acc B) (S : Stp Fz H (Own F) Fz' H' (Own F')) (R : Rel K env' σ' Fz' H' F') : AccI K D Fz1 H1 A1 σ' env' Fz' H' F' os acc B := by
  have al := RepOs.alive _ _ _ I.r
  obtain ⟨k1, k2⟩ := S.hold al I.hb
  obtain ⟨d1, d2⟩ := S.hold (B := [D]) (fun b hb => by rw [List.mem_singleton.mp hb]; exact I.alD) (fun b hb => by rw [List.mem_singleton.mp hb]; exact ⟨I.dF, I.dZ⟩)
  refine ⟨R, d1 D (List.mem_singleton_self D) _ I.hD, RepOs.frame S.fz _ _ _ k1 I.r, I.nd, k2, I.dB, (d2 D (List.mem_singleton_self D)).1, (d2 D (List.mem_singleton_self D)).2, ?_⟩
  have T := (I.S.mono (A2 := Own F) fun a z => .inl z).trans S
  refine ⟨T.fz, T.hp, T.al, fun a z => ?_, T.fn⟩
  rcases z with z | z | z
  · exact T.nw a z
  · exact I.S.nw a (.inr (.inl z))
  · exact I.S.nw a (.inr (.inr z))
theorem AccI.wipe (I : AccI K D Fz1 H1 A1 σ env Fz H F os acc B) (vs : List Nat) : AccI K D Fz1 H1 A1 (L2.wipe σ vs) (PD.wipe env vs) Fz H (wipeF F vs) os acc B :=
  ⟨I.R.wipe vs, I.hD, I.r, I.nd, fun b hb => ⟨fun z => (I.hb b hb).1 (own_wipe z), (I.hb b hb).2⟩, I.dB, fun z => I.dF (own_wipe z), I.dZ, I.S.mono fun a z => z.imp own_wipe id⟩
theorem RepOs.app : ∀ {os : List O} {vs : List V} {B : List Addr} {os' : List O} {vs' : List V} {C : List Addr}, RepOs K Fz H os vs B → RepOs K Fz H os' vs' C → RepOs K Fz H (os ++ os') (vs ++ vs') (B ++ C)
  | [], vs, B, os', vs', C, h, h' => by
    unfold RepOs at h
    rw [h.1, h.2]
    exact h'
  | o :: os, vs, B, os', vs', C, h, h' => by
    unfold RepOs at h
    obtain ⟨v, r, B1, B2, e1, eB, h1, h2⟩ := h
    rw [e1, eB]
    show RepOs K Fz H (o :: (os ++ os')) (v :: (r ++ vs')) (B1 ++ B2 ++ C)
    unfold RepOs
    exact ⟨v, _, B1, B2 ++ C, rfl, List.append_assoc .., h1, RepOs.app h2 h'⟩
theorem RepOs.one {o : O} {v : V} {C : List Addr} (h : RepO K Fz H o v C) : RepOs K Fz H [o] [v] C := by
  unfold RepOs
  exact ⟨v, [], C, [], rfl, (List.append_nil _).symm, h, by unfold RepOs; exact ⟨rfl, rfl⟩⟩
/-- a value is appended -/
theorem AccI.push {o : O} {y : V} (I : AccI K D Fz1 H1 A1 σ env Fz H F os acc B) (a : After K σ Fz H F env' o y H') : H' D = some (.lst acc) ∧ ∃ Fz' F' B', Same Fz Fz' ∧ AccI K D Fz1 H1 A1 σ env' Fz' (upd H' D (.lst (acc ++ [y]))) F' (os ++ [o]) (acc ++ [y]) B' := by
  obtain ⟨Fz', F', C, R, S, r, nC, hC⟩ := a
  have al := RepOs.alive _ _ _ I.r
  obtain ⟨k1, k2⟩ := S.hold al I.hb
  obtain ⟨d1, d2⟩ := S.hold (B := [D]) (fun b hb => by rw [List.mem_singleton.mp hb]; exact I.alD) (fun b hb => by rw [List.mem_singleton.mp hb]; exact ⟨I.dF, I.dZ⟩)
  have hD := d1 D (List.mem_singleton_self D) _ I.hD
  obtain ⟨e1, e2⟩ := d2 D (List.mem_singleton_self D)
  have up : ∀ b, b ≠ D → ∀ u, H' b = some u → upd H' D (.lst (acc ++ [y])) b = some u := fun b hb u h => by rw [upd_ne hb]; exact h
  have alU : ∀ b, H' b ≠ none → upd H' D (.lst (acc ++ [y])) b ≠ none := fun b h => by
    by_cases q : b = D
    · rw [q, upd_same]; exact fun z => nomatch z
    · rw [upd_ne q]; exact h
  have dC : D ∉ C := fun z => e1 (.inr z)
  have R' : Rel K env' σ Fz' (upd H' D (.lst (acc ++ [y]))) F' := by
    refine ⟨fun b u h => up b (fun z => by rw [z, e2] at h; cases h) u (R.sub b u h), R.len, fun i x e => ?_, R.no, R.nd, R.dj, R.fz⟩
    obtain ⟨w, h1, h2⟩ := R.sl i x e
    exact ⟨w, h1, RepO.frame (Same.refl _) x w _ (fun b hb u h => up b (fun z => e1 (.inl ⟨i, z ▸ hb⟩)) u h) h2⟩
  have T := (I.S.mono (A2 := Own F) fun a z => .inl z).trans (S.mono (A2 := Own F') fun a z => .inl z)
  refine ⟨hD, Fz', F', B ++ C, S.fz, R', upd_same, ?_, nodup_app I.nd nC fun b hb hc => (k2 b hb).1 (.inr hc), fun b z => ?_, fun z => ?_, fun z => e1 (.inl z), e2, ⟨T.fz, fun b u h n => ?_, fun b h => alU b (T.al b h), fun b z => ?_, T.fn⟩⟩
  · refine RepOs.app (RepOs.frame S.fz _ _ _ (fun b hb u h => up b (fun z => I.dB (z ▸ hb)) u (k1 b hb u h)) I.r) (RepOs.one (RepO.frame (Same.refl _) o y C (fun b hb u h => up b (fun z => dC (z ▸ hb)) u h) r))
  · rcases List.mem_append.mp z with z | z
    · exact ⟨fun w => (k2 b z).1 (.inl w), (k2 b z).2⟩
    · exact hC b z
  · rcases List.mem_append.mp z with z | z
    · exact I.dB z
    · exact dC z
  · refine up b (fun z => ?_) u (T.hp b u h n)
    rcases I.S.nw D (.inr (.inl rfl)) with q | q
    · exact n (z ▸ q)
    · rw [z, q] at h; cases h
  · rcases z with z | z | z
    · exact T.nw b z
    · exact I.S.nw b (.inr (.inl z))
    · rcases List.mem_append.mp z with z | z
      · exact I.S.nw b (.inr (.inr z))
      · rcases S.nw b (.inr z) with q | q
        · exact I.S.nw b (.inl q)
        · by_cases q2 : H1 b = none
          · exact .inr q2
          · exact absurd q (I.S.al b q2)
theorem AccI.len (I : AccI K D Fz1 H1 A1 σ env Fz H F os acc B) : acc.length = os.length := RepOs.length _ _ _ I.r

/-! ### the loop -/
theorem loop_run {J : It} {items : List Item} {w : Option (Nat × List PD.D)} {turn : Item → M (List O)} {body : (Hp → Prop) → V → Hp → Prop} {Fz0 : Hp} {Fin : Hp → Prop} {rest : List O} {env2 : Env}
    (iw : IsW K J items w σ Fz0) (e0 : Same Fz0 Fz)
    (hbody : ∀ (x : Item) (v : V) (env : Env) (Fz H H' : Hp) (F : Nat → List Addr) (os ys : List O) (acc : List V) (B : List Addr) (env1 : Env) (Nx : Hp → Prop), AccI K D Fz1 H1 A1 σ env Fz H F os acc B → ItemR K Fz H x v H' → turn x env = some (ys, env1) →
      (os ++ ys).length ≤ sizeLine → (∀ Fz' H'' F' acc' B', Same Fz Fz' → AccI K D Fz1 H1 A1 σ env1 Fz' H'' F' (os ++ ys) acc' B' → Nx H'') → body Nx v H')
    (I : AccI K D Fz1 H1 A1 σ env Fz H F os acc B) (run : loopL w turn items env = some (rest, env2)) (hsz : (os ++ rest).length ≤ sizeLine)
    (fin : ∀ Fz' H' F' acc' B', Same Fz Fz' → AccI K D Fz1 H1 A1 σ env2 Fz' H' F' (os ++ rest) acc' B' → Fin H') :
    ∃ W : Nat → Nat → Hp → Prop, (∃ m, W 0 m H) ∧ ∀ i m H, W i m H → (J.stop i H ∧ Fin H) ∨ (J.go i H ∧ ∃ Nx : Hp → Prop, (∀ H', Nx H' → ∃ m', m' < m ∧ W (i + 1) m' H') ∧ ∀ x H', J.yld i H x H' → body Nx x H') := by
  refine ⟨fun i m H2 => m = items.length - i ∧ i ≤ items.length ∧ ∃ env3 Fz3 F3 os3 acc3 B3 rest3, Same Fz Fz3 ∧ AccI K D Fz1 H1 A1 σ env3 Fz3 H2 F3 os3 acc3 B3 ∧ loopL w turn (items.drop i) env3 = some (rest3, env2) ∧ os3 ++ rest3 = os ++ rest,
    ⟨items.length, by omega, Nat.zero_le _, env, Fz, F, os, acc, B, rest, Same.refl _, I, by rw [List.drop_zero]; exact run, rfl⟩, ?_⟩
  rintro i m H2 ⟨rfl, hi, env3, Fz3, F3, os3, acc3, B3, rest3, s3, I3, run3, eq3⟩
  have watched : watch w env3 = true := by
    cases q : items.drop i with
    | nil => rw [q] at run3; unfold loopL at run3; exact (guardB_some run3).1
    | cons x xs => rw [q] at run3; unfold loopL at run3; exact (guardB_some run3).1
  obtain ⟨st, go⟩ := iw Fz3 H2 (e0.trans s3) I3.R.sub (watch_rel I3.R watched) i
  by_cases hlt : i < items.length
  · have hd : items.drop i = items[i] :: items.drop (i + 1) := List.drop_eq_getElem_cons hlt
    obtain ⟨g1, g2⟩ := go _ (List.getElem?_eq_getElem hlt)
    rw [hd] at run3
    unfold loopL at run3
    have run3 := (guardB_some run3).2
    split at run3
    case h_2 => cases run3
    rename_i ys env4 t1
    split at run3
    case h_2 => cases run3
    rename_i zs env5 t2
    cases run3
    refine .inr ⟨g1, fun H' => ∃ m', m' < items.length - i ∧ (m' = items.length - (i + 1) ∧ i + 1 ≤ items.length ∧ ∃ env3 Fz3 F3 os3 acc3 B3 rest3, Same Fz Fz3 ∧ AccI K D Fz1 H1 A1 σ env3 Fz3 H' F3 os3 acc3 B3 ∧ loopL w turn (items.drop (i + 1)) env3 = some (rest3, env2) ∧ os3 ++ rest3 = os ++ rest), fun H' h => h, fun x H' y => ?_⟩
    refine hbody _ x env3 Fz3 H2 H' F3 os3 ys acc3 B3 env4 _ I3 (g2 x H' y) t1 ?_ fun Fz' H'' F' acc' B' s4 I4 => ?_
    · rw [← eq3, ← List.append_assoc, List.length_append] at hsz
      omega
    · exact ⟨items.length - (i + 1), by omega, rfl, hlt, env4, Fz', F', os3 ++ ys, acc', B', zs, s3.trans s4, I4, t2, by rw [← eq3, List.append_assoc]⟩
  · have he : i = items.length := by omega
    have hd : items.drop i = [] := by rw [he, List.drop_length]
    rw [hd] at run3
    unfold loopL at run3
    have run3 := (guardB_some run3).2
    cases run3
    rw [List.append_nil] at eq3
    exact .inl ⟨st (by omega), fin Fz3 H2 F3 acc3 B3 s3 (eq3 ▸ I3)⟩
/-- one turn of a one-clause loop -/
theorem turn1_ok {tg : Tg} {cond : M Bool} {elt : M O} {tt : TT} {te : TE} {vs : List Nat} (hc : SndT K tt cond) (he : SndV K te elt) {σw : L2.St} (hσ : L2.wipe σw vs = σw)
    (x : Item) (v : V) (env : Env) (Fz H H' : Hp) (F : Nat → List Addr) (os ys : List O) (acc : List V) (B : List Addr) (env1 : Env) (Nx : Hp → Prop) (I : AccI K D Fz1 H1 A1 σw env Fz H F os acc B) (hx : ItemR K Fz H x v H') (e : turn1 tg cond elt vs x env = some (ys, env1))
    (hsz : (os ++ ys).length ≤ sizeLine) (q : ∀ Fz' H'' F' acc' B', Same Fz Fz' → AccI K D Fz1 H1 A1 σw env1 Fz' H'' F' (os ++ ys) acc' B' → Nx H'') :
    trTg K tg v σw H' fun σ2 H2 => L2.wipe σ2 vs = σw ∧ tt σ2 H2 fun b H3 =>
      if b = true then te σ2 H3 fun y H4 => ∃ acc, H4 D = some (.lst acc) ∧ acc.length < sizeLine ∧ Nx (upd H4 D (.lst (acc ++ [y]))) else Nx H3 := by
  unfold turn1 at e
  obtain ⟨g, e⟩ := guardB_some e
  split at e
  case h_2 => cases e
  rename_i e1 t1
  refine snd_tg I.R hx t1 _ g fun σ2 F2 R2' S2 k1 k2 => ?_
  have hw : L2.wipe σ2 vs = σw := by rw [wipe_eq k1 k2, hσ]
  refine ⟨hw, ?_⟩
  have I2 := I.step S2 R2'
  split at e
  · rename_i e2 t2
    refine hc e1 σ2 Fz H' F2 R2' _ _ t2 _ fun H3 a3 => ?_
    obtain ⟨Fz3, F3, R3, S3⟩ := a3
    have I3 := I2.step S3 R3
    rw [if_pos rfl]
    split at e
    case h_2 => cases e
    rename_i o e3 t3
    cases e
    refine he e2 σ2 Fz3 H3 F3 R3 _ _ t3 _ fun y H4 a4 => ?_
    obtain ⟨hD, Fz4, F4, B4, s4, I4⟩ := I3.push a4
    refine ⟨acc, hD, ?_, q Fz4 _ (wipeF F4 vs) (acc ++ [y]) B4 (S3.fz.trans s4) ?_⟩
    · rw [List.length_append, List.length_singleton] at hsz
      rw [I.len]
      omega
    · have := I4.wipe vs
      rw [hw] at this
      exact this
  · rename_i e2 t2
    cases e
    refine hc e1 σ2 Fz H' F2 R2' _ _ t2 _ fun H3 a3 => ?_
    obtain ⟨Fz3, F3, R3, S3⟩ := a3
    have I3 := I2.step S3 R3
    rw [if_neg (by decide)]
    refine q Fz3 _ (wipeF F3 vs) acc B S3.fz ?_
    have := I3.wipe vs
    rw [hw] at this
    rw [List.append_nil]
    exact this
  · cases e
theorem turn2_ok {tg tg1 : Tg} {cond cond1 : M Bool} {src : M Items} {elt : M O} {tt tt1 : TT} {wi1 : TI} {te : TE} {vs vs1 : List Nat} (hc : SndT K tt cond) (hs : SndS K wi1 src) (hc1 : SndT K tt1 cond1) (he : SndV K te elt) {σw : L2.St} (hσ : L2.wipe σw vs = σw)
    (x : Item) (v : V) (env : Env) (Fz H H' : Hp) (F : Nat → List Addr) (os ys : List O) (acc : List V) (B : List Addr) (env1 : Env) (Nx : Hp → Prop) (I : AccI K D Fz1 H1 A1 σw env Fz H F os acc B) (hx : ItemR K Fz H x v H') (e : turn2 tg cond src (turn1 tg1 cond1 elt vs1) vs vs1 x env = some (ys, env1))
    (hsz : (os ++ ys).length ≤ sizeLine) (q : ∀ Fz' H'' F' acc' B', Same Fz Fz' → AccI K D Fz1 H1 A1 σw env1 Fz' H'' F' (os ++ ys) acc' B' → Nx H'') :
    trTg K tg v σw H' fun σ2 H2 => L2.wipe σ2 vs = σw ∧ tt σ2 H2 fun b H3 =>
      if b = true then wi1 σ2 H3 fun J1 H4 => ∃ W1 : Nat → Nat → Hp → Prop, (∃ m, W1 0 m H4) ∧ ∀ j k H, W1 j k H →
      (J1.stop j H ∧ Nx H) ∨ (J1.go j H ∧ ∃ Nx1 : Hp → Prop, (∀ H', Nx1 H' → ∃ k', k' < k ∧ W1 (j + 1) k' H') ∧ ∀ x H', J1.yld j H x H' → trTg K tg1 x (L2.wipe σ2 vs1) H' fun σ3 H5 => L2.wipe σ3 vs1 = L2.wipe σ2 vs1 ∧ tt1 σ3 H5 fun b H6 =>
        if b = true then te σ3 H6 fun y H7 => ∃ acc, H7 D = some (.lst acc) ∧ acc.length < sizeLine ∧ Nx1 (upd H7 D (.lst (acc ++ [y]))) else Nx1 H6)
      else Nx H3 := by
  unfold turn2 at e
  obtain ⟨g, e⟩ := guardB_some e
  simp only [Bool.and_eq_true] at g
  have hsub : ∀ i ∈ vs1, i ∈ vs := fun i hi => by
    have := List.all_eq_true.mp g.2 i hi
    simpa using this
  split at e
  case h_2 => cases e
  rename_i e1 t1
  refine snd_tg I.R hx t1 _ g.1 fun σ2 F2 R2' S2 k1 k2 => ?_
  have hw : L2.wipe σ2 vs = σw := by rw [wipe_eq k1 k2, hσ]
  refine ⟨hw, ?_⟩
  have I2 := I.step S2 R2'
  split at e
  · rename_i e2 t2
    refine hc e1 σ2 Fz H' F2 R2' _ _ t2 _ fun H3 a3 => ?_
    obtain ⟨Fz3, F3, R3, S3⟩ := a3
    have I3 := I2.step S3 R3
    rw [if_pos rfl]
    split at e
    case h_2 => cases e
    rename_i items w e3 t3
    split at e
    case h_2 => cases e
    rename_i ys' e4 t4
    cases e
    refine hs e2 σ2 Fz3 H3 F3 R3 _ _ _ t3 _ fun J1 H4 Fz4 F4 R4 S4 iw => ?_
    have I4 := (I3.step S4 R4).wipe vs1
    refine loop_run (body := fun Nx1 x H' => trTg K tg1 x (L2.wipe σ2 vs1) H' fun σ3 H5 => L2.wipe σ3 vs1 = L2.wipe σ2 vs1 ∧ tt1 σ3 H5 fun b H6 =>
        if b = true then te σ3 H6 fun y H7 => ∃ acc, H7 D = some (.lst acc) ∧ acc.length < sizeLine ∧ Nx1 (upd H7 D (.lst (acc ++ [y]))) else Nx1 H6) iw.wipe (Same.refl _)
      (turn1_ok hc1 he (by rw [wipe_sub (fun i hi => hi)])) I4 t4 hsz fun Fz5 H5 F5 acc5 B5 s5 I5 => ?_
    refine q Fz5 H5 (wipeF F5 vs) acc5 B5 (S3.fz.trans (S4.fz.trans s5)) ?_
    have := I5.wipe vs
    rw [wipe_sub hsub, hw] at this
    exact this
  · rename_i e2 t2
    cases e
    refine hc e1 σ2 Fz H' F2 R2' _ _ t2 _ fun H3 a3 => ?_
    obtain ⟨Fz3, F3, R3, S3⟩ := a3
    have I3 := I2.step S3 R3
    rw [if_neg (by decide)]
    refine q Fz3 _ (wipeF F3 vs) acc B S3.fz ?_
    have := I3.wipe vs
    rw [hw] at this
    rw [List.append_nil]
    exact this
  · cases e
/-- the end: the slots are as they were -/
theorem AccI.fin {env1 env2 : Env} {Fz2 H2 : Hp} {F1 F2 : Nat → List Addr} {vs : List Nat} {total : List O} (R : Rel K env1 σ Fz1 H1 F1) (I : AccI K D Fz1 H1 (Own (wipeF F1 vs)) (L2.wipe σ vs) env2 Fz2 H2 F2 total acc B) :
    After K σ Fz1 H1 F1 (back env1 env2 vs) (.lst total) (.ref D) H2 := by
  have hlen : env1.length = env2.length := by rw [R.len, I.R.len, L2.wipe_length]
  -- what lay in the slots that were forgotten
  have heldA : ∀ i ∈ vs, ∀ a ∈ F1 i, (∀ u, H1 a = some u → H2 a = some u) ∧ ¬ (Own F2 a ∨ a = D ∨ a ∈ B) ∧ Fz2 a = none := fun i hi a ha => by
    have no : ¬ Own (wipeF F1 vs) a := fun ⟨j, hj⟩ => by
      unfold wipeF at hj
      split at hj
      · exact absurd hj List.not_mem_nil
      · rename_i hn
        exact hn (R.dj i j a ha hj ▸ hi)
    have al := R.alive ⟨i, ha⟩
    refine ⟨fun u h => I.S.hp a u h no, fun z => ?_, ?_⟩
    · rcases I.S.nw a z with q | q
      · exact no q
      · exact al q
    · cases q : Fz2 a with
      | none => rfl
      | some u =>
        rcases I.S.fn a (by rw [q]; exact fun z => nomatch z) with z | z | z
        · exact absurd (R.fz i a ha) z
        · exact absurd z al
        · exact absurd z no
  refine ⟨Fz2, fun i => if i ∈ vs then F1 i else F2 i, D :: B, ⟨I.R.sub, by rw [back_len, ← hlen]; exact R.len, fun i o e => ?_, fun i e => ?_, fun i => ?_, fun i j a h1 h2 => ?_, fun i a h => ?_⟩, ⟨I.S.fz, fun a u h n => I.S.hp a u h fun z => n (own_wipe z), I.S.al, fun a z => ?_, fun a z => ?_⟩, ?_, List.nodup_cons.mpr ⟨I.dB, I.nd⟩, fun b z => ?_⟩
  · rw [look_back hlen] at e
    show ∃ v, σ[i]? = some (some v) ∧ RepO K Fz2 H2 o v (if i ∈ vs then F1 i else F2 i)
    by_cases hi : i ∈ vs
    · rw [if_pos hi] at e ⊢
      obtain ⟨v, h1, h2⟩ := R.sl i o e
      exact ⟨v, h1, RepO.frame I.S.fz o v _ (fun a ha u h => (heldA i hi a ha).1 u h) h2⟩
    · rw [if_neg hi] at e ⊢
      obtain ⟨v, h1, h2⟩ := I.R.sl i o e
      exact ⟨v, by rw [L2.wipe_out hi] at h1; exact h1, h2⟩
  · rw [look_back hlen] at e
    show (if i ∈ vs then F1 i else F2 i) = []
    split
    · rename_i hi
      rw [if_pos hi] at e
      exact R.no i e
    · rename_i hi
      rw [if_neg hi] at e
      exact I.R.no i e
  · show (if i ∈ vs then F1 i else F2 i).Nodup
    split
    · exact R.nd i
    · exact I.R.nd i
  · have h1 : a ∈ (if i ∈ vs then F1 i else F2 i) := h1
    have h2 : a ∈ (if j ∈ vs then F1 j else F2 j) := h2
    split at h1
    · rename_i hi
      split at h2
      · exact R.dj i j a h1 h2
      · exact absurd (.inl ⟨j, h2⟩) (heldA i hi a h1).2.1
    · split at h2
      · rename_i hj
        exact absurd (.inl ⟨i, h1⟩) (heldA j hj a h2).2.1
      · exact I.R.dj i j a h1 h2
  · have h : a ∈ (if i ∈ vs then F1 i else F2 i) := h
    split at h
    · rename_i hi
      exact (heldA i hi a h).2.2
    · exact I.R.fz i a h
  · rcases z with ⟨i, z⟩ | z
    · have z : a ∈ (if i ∈ vs then F1 i else F2 i) := z
      split at z
      · exact .inl ⟨i, z⟩
      · exact (I.S.nw a (.inl ⟨i, z⟩)).imp own_wipe id
    · rcases List.mem_cons.mp z with z | z
      · exact (I.S.nw a (.inr (.inl z))).imp own_wipe id
      · exact (I.S.nw a (.inr (.inr z))).imp own_wipe id
  · rcases I.S.fn a z with q | q | q
    · exact .inl q
    · exact .inr (.inl q)
    · exact .inr (.inr (own_wipe q))
  · unfold RepO
    exact ⟨D, acc, B, rfl, I.hD, rfl, I.r⟩
  · have far : ∀ i ∈ vs, ∀ a, a ∈ F1 i → ¬ (a = D ∨ a ∈ B) := fun i hi a ha w => (heldA i hi a ha).2.1 (.inr w)
    have own : (b = D ∨ b ∈ B) → ¬ Own F2 b ∧ Fz2 b = none := fun w => by
      rcases w with w | w
      · rw [w]; exact ⟨I.dF, I.dZ⟩
      · exact I.hb b w
    have w := List.mem_cons.mp z
    refine ⟨fun ⟨i, y⟩ => ?_, (own w).2⟩
    have y : b ∈ (if i ∈ vs then F1 i else F2 i) := y
    split at y
    · rename_i hi
      exact far i hi b y w
    · exact (own w).1 ⟨i, y⟩
theorem snd_lc {wi : TI} {tt : TT} {te : TE} {src : M Items} {tg : Tg} {cond : M Bool} {elt : M O} {vs : List Nat} (hs : SndS K wi src) (hc : SndT K tt cond) (he : SndV K te elt) :
    SndV K (tLc wi (trTg K tg) tt te vs) (vComp src (turn1 tg cond elt vs) vs) := by
  intro env σ Fz H F R x env' e Q q
  unfold vComp at e
  split at e
  case h_2 => cases e
  rename_i items w env1 e1
  split at e
  case h_2 => cases e
  rename_i os env2 e2
  obtain ⟨g, e⟩ := guardB_some e
  cases e
  refine hs env σ Fz H F R _ _ _ e1 _ fun J H1 Fz1 F1 R1 S1 iw D hD => ?_
  refine loop_run (body := fun Nx x H' => trTg K tg x (L2.wipe σ vs) H' fun σ2 H2 => L2.wipe σ2 vs = L2.wipe σ vs ∧ tt σ2 H2 fun b H3 =>
    if b = true then te σ2 H3 fun y H4 => ∃ acc, H4 D = some (.lst acc) ∧ acc.length < sizeLine ∧ Nx (upd H4 D (.lst (acc ++ [y]))) else Nx H3) iw.wipe (Same.refl _) (turn1_ok hc he (wipe_sub fun i hi => hi))
    (AccI.start (R1.wipe vs) hD) e2 (of_decide_eq_true g) fun Fz5 H5 F5 acc5 B5 s5 I5 => ?_
  exact q _ _ (After.trans S1 (I5.fin R1))
theorem snd_lc2 {wi wi1 : TI} {tt tt1 : TT} {te : TE} {src src1 : M Items} {tg tg1 : Tg} {cond cond1 : M Bool} {elt : M O} {vs vs1 : List Nat} (hs : SndS K wi src) (hc : SndT K tt cond) (hs1 : SndS K wi1 src1) (hc1 : SndT K tt1 cond1) (he : SndV K te elt) :
    SndV K (tLc2 wi (trTg K tg) tt wi1 (trTg K tg1) tt1 te vs vs1) (vComp src (turn2 tg cond src1 (turn1 tg1 cond1 elt vs1) vs vs1) vs) := by
  intro env σ Fz H F R x env' e Q q
  unfold vComp at e
  split at e
  case h_2 => cases e
  rename_i items w env1 e1
  split at e
  case h_2 => cases e
  rename_i os env2 e2
  obtain ⟨g, e⟩ := guardB_some e
  cases e
  refine hs env σ Fz H F R _ _ _ e1 _ fun J H1 Fz1 F1 R1 S1 iw D hD => ?_
  refine loop_run (body := fun Nx x H' => trTg K tg x (L2.wipe σ vs) H' fun σ2 H2 => L2.wipe σ2 vs = L2.wipe σ vs ∧ tt σ2 H2 fun b H3 =>
    if b = true then wi1 σ2 H3 fun J1 H4 => ∃ W1 : Nat → Nat → Hp → Prop, (∃ m, W1 0 m H4) ∧ ∀ j k H, W1 j k H →
      (J1.stop j H ∧ Nx H) ∨ (J1.go j H ∧ ∃ Nx1 : Hp → Prop, (∀ H', Nx1 H' → ∃ k', k' < k ∧ W1 (j + 1) k' H') ∧ ∀ x H', J1.yld j H x H' → trTg K tg1 x (L2.wipe σ2 vs1) H' fun σ3 H5 => L2.wipe σ3 vs1 = L2.wipe σ2 vs1 ∧ tt1 σ3 H5 fun b H6 =>
        if b = true then te σ3 H6 fun y H7 => ∃ acc, H7 D = some (.lst acc) ∧ acc.length < sizeLine ∧ Nx1 (upd H7 D (.lst (acc ++ [y]))) else Nx1 H6)
    else Nx H3) iw.wipe (Same.refl _) (turn2_ok hc hs1 hc1 he (wipe_sub fun i hi => hi))
    (AccI.start (R1.wipe vs) hD) e2 (of_decide_eq_true g) fun Fz5 H5 F5 acc5 B5 s5 I5 => ?_
  exact q _ _ (After.trans S1 (I5.fin R1))
end
end PD
end

section
set_option Elab.async false
set_option linter.all false
set_option maxRecDepth 100000
set_option maxHeartbeats 1000000
/-! PD: soundness of terms. -/
namespace PD
open PySem PySem.Spec PyProof.Rows L2

/-! ### isinstance -/
theorem kit_all : ∀ a ∈ [Ty.int, .bool, .str, .list, .tuple, .none], ∀ b ∈ [Ty.int, .bool, .str, .list, .tuple, .none], kitB (tyName a) (tyName b) = some (isiT a [b]) := by decide +kernel
theorem ty_mem : ∀ a : Ty, a ∈ [Ty.int, .bool, .str, .list, .tuple, .none]
  | .int => by decide
  | .bool => by decide
  | .str => by decide
  | .list => by decide
  | .tuple => by decide
  | .none => by decide
theorem kit_one (K : PySem.W.Frag) (a b : Ty) : PySem.W.kitOne K (.type (tyName a)) (.type (tyName b)) = some (isiT a [b]) := kit_ty (kit_all a (ty_mem a) b (ty_mem b))
theorem kit_any (K : PySem.W.Frag) (a : Ty) : ∀ ts : List Ty, PySem.W.kitAny K (.type (tyName a)) (ts.map fun t => .type (tyName t)) = some (isiT a ts)
  | [] => rfl
  | t :: ts => by
    have h := kit_one K a t
    refine kitAny_cons h (fun e => ?_) (fun e => ?_)
    · rw [kit_any K a ts]
      unfold isiT at e ⊢
      rw [List.any_cons]
      rw [List.any_cons, List.any_nil, Bool.or_false] at e
      rw [e, Bool.false_or]
    · unfold isiT at e ⊢
      rw [List.any_cons]
      rw [List.any_cons, List.any_nil, Bool.or_false] at e
      rw [e, Bool.true_or]

section
variable {K : PySem.W.Frag} {env env' : Env} {σ : L2.St} {Fz H Fz' H' : Hp} {F F' : Nat → List Addr} {t ta tb tc : TE}

theorem ty_rep {o : O} {x : V} {a : Ty} (sub : Same Fz H) (ra : RepR K Fz H o x) (e : tyOf o.toD = some a) : TyX K H x (.type (tyName a)) := by
  cases o with
  | lst os =>
    have e : some Ty.list = some a := e
    cases e
    obtain ⟨B, r⟩ := ra
    unfold RepO at r
    obtain ⟨p, vs, C, rfl, h1, _⟩ := r
    exact .base (.lst h1)
  | d d =>
    have r := ra.data sub
    cases d with
    | none =>
      cases e
      have r : Rep K H .none x := r
      unfold Rep at r
      rw [r]
      exact .base .non
    | bool b =>
      cases e
      have r : Rep K H (.bool b) x := r
      unfold Rep at r
      rw [r]
      exact .base (.bl b)
    | int b =>
      cases e
      have r : Rep K H (.int b) x := r
      unfold Rep at r
      rw [r]
      exact .base (.int b)
    | str b =>
      cases e
      have r : Rep K H (.str b) x := r
      unfold Rep at r
      rw [r]
      exact .base (.str b)
    | list b =>
      cases e
      have r : Rep K H (.list b) x := r
      unfold Rep at r
      obtain ⟨p, vs, rfl, h1, _⟩ := r
      rcases h1 with (h1 | ⟨ob, h1⟩) | ⟨ob, its, n, h1, h2, _⟩
      · exact .base (.lst h1)
      · exact .base (.frz h1)
      · exact .kList h1 h2
    | tuple b =>
      cases e
      have r : Rep K H (.tuple b) x := r
      unfold Rep at r
      obtain ⟨p, vs, rfl, h1, _⟩ := r
      rcases h1 with ⟨ob, h1, _⟩ | ⟨ob, its, n, h1, h2, _⟩
      · exact .fTuple h1
      · exact .kTuple h1 h2
    | dict _ => cases e
theorem snd_isi {a : M Opnd} (ha : SndP K ta a) (y : Ty) : SndV K (tCB (rIsi K) (tCons ta (tCons (tC (.ty (tyName y))) tNil))) (vOp1 (isif [y]) a) := by
  have h : SndV K (tUn (fun x H Q => rIsi K [x, .ty (tyName y)] H Q) ta) (vOp1 (isif [y]) a) := by
    refine snd_op1 ha fun Fz H x o z sub ra e Q q => ?_
    unfold isif at e
    split at e
    case h_2 => cases e
    rename_i a h
    obtain ⟨_, e⟩ := guardB_some e
    cases e
    exact ⟨x, _, _, _, _, rfl, .ty _, ty_rep sub ra h, kit_one K a y, q _ _ (NewV.bl sub)⟩
  exact h
theorem trTys_run : ∀ (ts : List Ty) (σ : L2.St) (H : Hp) (Q : List V → Hp → Prop), Q (ts.map fun t => V.ty (tyName t)) H → trTys ts σ H Q
  | [], σ, H, Q, q => q
  | t :: ts, σ, H, Q, q => trTys_run ts σ H (fun xs H2 => Q (V.ty (tyName t) :: xs) H2) q
theorem cls_all : ∀ ts : List Ty, Paired ClsV (ts.map fun t => V.ty (tyName t)) (ts.map fun t => Value.type (tyName t))
  | [] => .nil
  | t :: ts => .cons (.ty _) (cls_all ts)
theorem snd_isiT {a : M Opnd} (ha : SndP K ta a) (ts : List Ty) : SndV K (tCB (rIsiT K) (tCons ta (tCons (L2.tTup (trTys ts)) tNil))) (vOp1 (isif ts) a) := by
  intro env σ Fz H F R x env' e Q q
  unfold vOp1 at e
  split at e
  case h_2 => cases e
  rename_i p env1 e1
  split at e
  case h_2 => cases e
  rename_i y h1
  refine ha env σ Fz H F R _ _ e1 _ fun v1 H1 a1 => ?_
  obtain ⟨Fz1, F1, R1, S1, r1⟩ := a1
  cases h3 : isif ts y with
  | none => rw [h3] at e; cases e
  | some z =>
    rw [h3] at e
    cases e
    unfold isif at h3
    split at h3
    case h_2 => cases h3
    rename_i b h
    obtain ⟨hl, h3⟩ := guardB_some h3
    have hl : ts.length ≤ 100 := of_decide_eq_true hl
    have hl : ts.length ≤ sizeLine := Nat.le_trans hl (by rw [sizeLine_eq]; omega)
    cases h3
    refine trTys_run ts σ H1 _ ⟨by rw [List.length_map]; exact hl, fun p hp => ?_⟩
    have up := Same.upd (u := .tup (ts.map fun t => V.ty (tyName t))) hp
    have ty := ty_rep R1.sub (R1.res r1 h1) h
    have ty2 : TyX K (upd H1 p (.tup (ts.map fun t => V.ty (tyName t)))) v1 (.type (tyName b)) := by
      have R' := R1.grow (Same.refl _) (R1.sub.trans up) up (fun a z => .inl z)
      exact ty_rep R'.sub (R'.res r1 h1) h
    refine ⟨v1, p, _, _, _, _, rfl, upd_same, cls_all ts, ty2, kit_any K b ts, q _ _ (After.bl ⟨S1.fz, fun a u h n => up a u (S1.hp a u h n), fun a h => Same.ne up (S1.al a h), S1.nw, S1.fn⟩ (R1.grow (Same.refl _) (R1.sub.trans up) up (fun a z => .inl z)))⟩
end

/-! ### all of it -/
structure S4 (c : Cfg) (t : T2) (m : S3) : Prop where
  v : SndV c.K t.v m.v
  p : SndP c.K t.v m.p
  t : SndT c.K t.t m.t
section
variable {c : Cfg}
theorem S4.of {t : TE} {f : M O} (h : SndV c.K t f) : S4 c (T2.of c.K t) (S3.of f) := ⟨h, snd_toP h, snd_toT h⟩
theorem snd_none {t : TE} : SndV c.K t (fun _ => none) := by
  intro env σ Fz H F R x env' e
  cases e
theorem fn_none {f : List O → Option O} (h : ∀ os, f os = none) (es : M (List Opnd)) : ∀ env, vFn f es env = none := fun env => by
  unfold vFn
  split
  · split
    · rw [h]; rfl
    · rfl
  · rfl
theorem snd_trFn {f : Fn} {ts : TA} {es : M (List Opnd)} (hs : SndPs c.K ts es) : SndV c.K (trFn c f ts) (vFn (fnf f) es) := by
  by_cases h : fnOk f = true
  · have : trFn c f ts = tCB (rFn c.K f) ts := by cases f <;> first | rfl | cases h
    rw [this]
    exact snd_fn hs (on_fn c.K f h)
  · cases f <;> first | exact absurd rfl h | skip
    · have h2 : SndV c.K (tCB (rSset c.K c.w) ts) (vFn (fnf .sset) es) := snd_fn hs (on_sset c.w)
      exact h2
/-! the reading and the meaning agree, whatever the functions do -/
mutual
theorem snd_ie (C : CallT) (hc : ∀ f, c.sp f = SpF c.K C f) : ∀ e : IE, S4 c (tr c e) (sem C e)
  | .var i => ⟨snd_vVar i, snd_pVar i, snd_toT (snd_vVar i)⟩
  | .cint k => .of (snd_const fun G => by unfold Rep; rfl)
  | .cbl k => .of (snd_const fun G => by unfold Rep; rfl)
  | .cnon => .of (snd_const fun G => by unfold Rep; rfl)
  | .cstr k => .of (snd_const fun G => by unfold Rep; rfl)
  | .op2 o a b => by
    have ha := snd_ie C hc a
    have hb := snd_ie C hc b
    have h := snd_op2 (o := o) ha.p hb.p (os_r2 c.K o)
    refine ⟨h, snd_toP h, ?_⟩
    show SndT c.K (if isCmp o = true then tTest (tOp (r2 c.K o) (tr c a).v (tr c b).v) else tTru c.K (tOp (r2 c.K o) (tr c a).v (tr c b).v)) _
    by_cases hcm : isCmp o = true
    · rw [if_pos hcm]
      exact snd_op2t ha.p hb.p (os_r2 c.K o) hcm
    · rw [if_neg hcm]
      exact snd_toT h
  | .op1 .neg a => .of (snd_op1 (snd_ie C hc a).p os_neg)
  | .fn f es => .of (snd_trFn (snd_ps C hc es))
  | .chain o o' a b d => by
    have h := snd_chain (snd_ie C hc a).p (snd_ie C hc b).p (snd_ie C hc d).p (os_r2 c.K o) (os_r2 c.K o')
    refine ⟨h, snd_toP h, ?_⟩
    show SndT c.K (if isCmp o' = true then tTest (tChain (r2 c.K o) (r2 c.K o') (tr c a).v (tr c b).v (tr c d).v) else tTru c.K (tChain (r2 c.K o) (r2 c.K o') (tr c a).v (tr c b).v (tr c d).v)) _
    by_cases hcm : isCmp o' = true
    · rw [if_pos hcm]
      exact snd_test h fun env z env' e => vChain_bool hcm e
    · rw [if_neg hcm]
      exact snd_toT h
  | .and a b => by
    have h := snd_and (snd_ie C hc a).v (snd_ie C hc b).v
    exact ⟨h, snd_toP h, snd_tAnd (snd_ie C hc a).t (snd_ie C hc b).t⟩
  | .or a b => by
    have h := snd_or (snd_ie C hc a).v (snd_ie C hc b).v
    exact ⟨h, snd_toP h, snd_tOr (snd_ie C hc a).t (snd_ie C hc b).t⟩
  | .not a => by
    have h := snd_not (snd_ie C hc a).v
    exact ⟨h, snd_toP h, snd_tNot (snd_ie C hc a).t⟩
  | .ite d a b => by
    have h := snd_ite (snd_ie C hc d).t (snd_ie C hc a).v (snd_ie C hc b).v
    exact ⟨h, snd_toP h, snd_tIte (snd_ie C hc d).t (snd_ie C hc a).t (snd_ie C hc b).t⟩
  | .tup es => .of (snd_tup (snd_ds C hc es))
  | .lst es => .of (snd_lst (snd_vs C hc es))
  | .slc a lo hi => .of (snd_slc (snd_ie C hc a).p (snd_oi C hc lo) (snd_oi C hc hi))
  | .rev a => .of (snd_rev (snd_ie C hc a).p)
  | .lrng1 a => .of (snd_lrng1 (snd_ie C hc a).p)
  | .lrng2 a b => .of (snd_lrng2 (snd_ie C hc a).p (snd_ie C hc b).p)
  | .call f es => by
    have h := snd_call (C := C) (f := f) (snd_ps C hc es)
    rw [← hc f] at h
    exact .of h
  | .idx tup a b => .of (snd_idx (snd_ie C hc a).p (snd_ie C hc b).p)
  | .isi a t => .of (snd_isi (snd_ie C hc a).p t)
  | .isiT a ts => .of (snd_isiT (snd_ie C hc a).p ts)
  | .comp elt tg src cond vs => .of (snd_lc (snd_src C hc src) (snd_cond C hc cond) (snd_ie C hc elt).v)
  | .comp2 elt tg src cond tg1 src1 cond1 vs vs1 => .of (snd_lc2 (snd_src C hc src) (snd_cond C hc cond) (snd_src C hc src1) (snd_cond C hc cond1) (snd_ie C hc elt).v)
theorem snd_ps (C : CallT) (hc : ∀ f, c.sp f = SpF c.K C f) : ∀ es : List IE, SndPs c.K (trA c es) (semPs C es)
  | [] => snd_psNil
  | e :: es => snd_psCons (snd_ie C hc e).p (snd_ps C hc es)
theorem snd_vs (C : CallT) (hc : ∀ f, c.sp f = SpF c.K C f) : ∀ es : List IE, SndVs c.K (trA c es) (semVs C es)
  | [] => snd_vsNil
  | e :: es => snd_vsCons (snd_ie C hc e).v (snd_vs C hc es)
theorem snd_ds (C : CallT) (hc : ∀ f, c.sp f = SpF c.K C f) : ∀ es : List IE, SndDs c.K (trA c es) (semDs C es)
  | [] => snd_dsNil
  | e :: es => snd_dsCons (snd_toD (snd_ie C hc e).v) (snd_ds C hc es)
theorem snd_oi (C : CallT) (hc : ∀ f, c.sp f = SpF c.K C f) : ∀ e : Option IE, SndI c.K (trO c e) (semI C e)
  | none => snd_iNone
  | some e => snd_iSome (snd_ie C hc e).v
theorem snd_cond (C : CallT) (hc : ∀ f, c.sp f = SpF c.K C f) : ∀ e : Option IE, SndT c.K (trC c e) (semC C e)
  | none => snd_tYes
  | some e => (snd_ie C hc e).t
theorem snd_src (C : CallT) (hc : ∀ f, c.sp f = SpF c.K C f) : ∀ s : Src, SndS c.K (trI c s) (semS C s)
  | .seq e => by
    have h := snd_ie C hc e
    cases e with
    | var i => exact snd_sVar i
    | _ => exact snd_sSeq h.v
  | .rng1 a => snd_rng1 (snd_ie C hc a).v
  | .rng2 a b => snd_rng2 (snd_ie C hc a).v (snd_ie C hc b).v
  | .rng3 a b d => snd_rng3 (snd_ie C hc a).v (snd_ie C hc b).v (snd_ie C hc d).v
  | .enum e => snd_enum (snd_ie C hc e).v
  | .zip a b => snd_zip (snd_ie C hc a).v (snd_ie C hc b).v
end
end
end PD
end

section
set_option Elab.async false
set_option linter.all false
set_option maxRecDepth 100000
set_option maxHeartbeats 1000000
/-! PD: statements: their reading, its soundness. -/
namespace PD
open PySem PySem.Spec PyProof.Rows L2

def stAllV : List Nat → List V → L2.St → L2.St
  | i :: is, v :: vs, σ => stAllV is vs (σ.set i (some v))
  | _, _, σ => σ
/-- a, b, .. = .., each place's own value; sw: no tuple stands between -/
def tPars (sw : Bool) (is : List Nat) (ta : TA) : TS := fun D σ H => ta σ H fun vs H1 => vs.length = is.length ∧ if sw = true then D.nx (stAllV is vs σ) H1 else vs.length ≤ sizeLine ∧ ∀ p, H1 p = none → D.nx (stAllV is vs σ) (upd H1 p (.tup vs))

mutual
def trS (c : Cfg) : IS → TS
  | .asg i e => tAsg (tr c e).v (gName i)
  | .pars sw is es => tPars sw is (trA c es)
  | .unp is e => tAsg (tr c e).v (gTup c.K is.length (gAll is))
  | .ifs d a b => tIfS (tr c d).t (trSs c a) (trSs c b)
  | .fors tg src body => tFor (trI c src) (trTg c.K tg) (trSs c body)
  | .whl d body => tWhile (tr c d).t (trSs c body)
  | .ret e => tRet (tr c e).v
  | .retN => tRetN
  | .app i e => tDrop (tBM c.K "list" rAppend (tVar i) (tCons (tr c e).v tNil))
  | .appix i k j => tDrop (tBM c.K "list" rAppend (tOp (rIxA c.K) (tVar i) (tr c k).v) (tCons (tVar j) tNil))
  | .setix i k e => tAsg (tr c e).v (gSub (tVar i) (tr c k).v rSetL)
  | .expr e => tDrop (tr c e).v
  | .brk => tBreak
  | .cnt => tCont
  | .pass => tNext
  | .never => tNever
def trSs (c : Cfg) : List IS → TS
  | [] => tNext
  | s :: ss => tSeq (trS c s) (trSs c ss)
end

section
variable (K : PySem.W.Frag) (bor : List Bool)
/-- behind a statement -/
def AftS (σ : L2.St) (Fz H : Hp) (F : Nat → List Addr) (env' : Env) (σ' : L2.St) (H' : Hp) : Prop :=
  ∃ Fz' F', Rel K env' σ' Fz' H' F' ∧ Stp Fz H (Own F) Fz' H' (Own F') ∧ ∀ i, bor.getD i false = true → σ'[i]? = σ[i]?
/-- a value is given back -/
def AftR (σ : L2.St) (Fz H : Hp) (F : Nat → List Addr) (env' : Env) (o : O) (v : V) (H' : Hp) : Prop :=
  ∃ σ' Fz' F' B, Rel K env' σ' Fz' H' F' ∧ Stp Fz H (Own F) Fz' H' (fun a => Own F' a ∨ a ∈ B) ∧ RepO K Fz' H' o v B ∧ B.Nodup ∧ (∀ b ∈ B, ¬ Own F' b ∧ Fz' b = none) ∧ ∀ i, bor.getD i false = true → σ'[i]? = σ[i]?
def OutR (σ : L2.St) (Fz H : Hp) (F : Nat → List Addr) (D : Ends) : Out → Prop
  | .nx env' => ∀ σ' H', AftS K bor σ Fz H F env' σ' H' → D.nx σ' H'
  | .bk env' => ∀ σ' H', AftS K bor σ Fz H F env' σ' H' → D.bk σ' H'
  | .ct env' => ∀ σ' H', AftS K bor σ Fz H F env' σ' H' → D.ct σ' H'
  | .rt o env' => ∀ v H', AftR K bor σ Fz H F env' o v H' → D.rt v H'
def SndE (t : TS) (f : Env → Option Out) : Prop := ∀ env σ Fz H F, Rel K env σ Fz H F → ∀ out, f env = some out → ∀ D : Ends, OutR K bor σ Fz H F D out → t D σ H
end

section
variable {K : PySem.W.Frag} {bor : List Bool} {env env' : Env} {σ σ' : L2.St} {Fz H Fz' H' : Hp} {F F' : Nat → List Addr} {t ta tb tc : TE}
theorem AftS.trans {σ1 : L2.St} {F1 : Nat → List Addr} {Fz1 H1 : Hp} (S : Stp Fz H (Own F) Fz1 H1 (Own F1)) (b : ∀ i, bor.getD i false = true → σ1[i]? = σ[i]?) (h : AftS K bor σ1 Fz1 H1 F1 env' σ' H') : AftS K bor σ Fz H F env' σ' H' := by
  obtain ⟨Fz2, F2, R, T, b2⟩ := h
  exact ⟨Fz2, F2, R, S.trans T, fun i hi => (b2 i hi).trans (b i hi)⟩
theorem AftR.trans {σ1 : L2.St} {F1 : Nat → List Addr} {Fz1 H1 : Hp} {o : O} {v : V} (S : Stp Fz H (Own F) Fz1 H1 (Own F1)) (b : ∀ i, bor.getD i false = true → σ1[i]? = σ[i]?) (h : AftR K bor σ1 Fz1 H1 F1 env' o v H') : AftR K bor σ Fz H F env' o v H' := by
  obtain ⟨σ2, Fz2, F2, B, R, T, r, n, hb, b2⟩ := h
  exact ⟨σ2, Fz2, F2, B, R, S.trans T, r, n, hb, fun i hi => (b2 i hi).trans (b i hi)⟩
theorem OutR.trans {σ1 : L2.St} {F1 : Nat → List Addr} {Fz1 H1 : Hp} {D : Ends} {out : Out} (S : Stp Fz H (Own F) Fz1 H1 (Own F1)) (b : ∀ i, bor.getD i false = true → σ1[i]? = σ[i]?) (h : OutR K bor σ Fz H F D out) : OutR K bor σ1 Fz1 H1 F1 D out := by
  cases out with
  | nx e => exact fun σ' H' a => h σ' H' (a.trans S b)
  | bk e => exact fun σ' H' a => h σ' H' (a.trans S b)
  | ct e => exact fun σ' H' a => h σ' H' (a.trans S b)
  | rt o e => exact fun v H' a => h v H' (a.trans S b)
theorem AfterU.aft (h : AfterU K σ Fz H F env' H') : AftS K bor σ Fz H F env' σ H' := by
  obtain ⟨Fz1, F1, R, S⟩ := h
  exact ⟨Fz1, F1, R, S, fun _ _ => rfl⟩
theorem may_ne {i j : Nat} (h : mayB bor i = true) (hj : bor.getD j false = true) : i ≠ j := fun e => by
  unfold mayB at h
  rw [e, hj] at h
  cases h

/-! ### stores -/
theorem snd_asg {f : M O} {i : Nat} (h : SndV K t f) : SndE K bor (tAsg t (gName i)) (fun env => guardB (mayB bor i) (match f env with
    | some (o, env1) => some (.nx (env1.set i (some o)))
    | none => none)) := by
  intro env σ Fz H F R out e D d
  obtain ⟨g, e⟩ := guardB_some e
  split at e
  case h_2 => cases e
  rename_i o env1 e1
  cases e
  refine h env σ Fz H F R _ _ e1 _ fun v H' a => ?_
  obtain ⟨Fz1, F1, B, R1, S1, r1, nd, hb⟩ := a
  refine d _ _ ⟨Fz1, _, R1.put (i := i) r1 nd hb, S1.mono fun a z => own_put z, fun j hj => ?_⟩
  rw [List.getElem?_set_ne (may_ne g hj)]
theorem put_os : ∀ (is : List Nat) (os : List O) (vs : List V) (B : List Addr) (env : Env) (σ : L2.St) (F : Nat → List Addr), Rel K env σ Fz H F → RepOs K Fz H os vs B → B.Nodup → (∀ b ∈ B, ¬ Own F b ∧ Fz b = none) → is.length = os.length →
    ∃ F1, Rel K (stAll is os env) (stAllV is vs σ) Fz H F1 ∧ (∀ a, Own F1 a → Own F a ∨ a ∈ B) ∧ ∀ j, j ∉ is → (stAllV is vs σ)[j]? = σ[j]?
  | [], os, vs, B, env, σ, F, R, r, nd, hb, l => by
    cases os with
    | nil => exact ⟨F, R, fun a z => .inl z, fun _ _ => rfl⟩
    | cons _ _ => cases l
  | i :: is, os, vs, B, env, σ, F, R, r, nd, hb, l => by
    cases os with
    | nil => cases l
    | cons o os =>
      unfold RepOs at r
      obtain ⟨v, r', B1, B2, rfl, rfl, h1, h2⟩ := r
      have nd' := List.nodup_append.mp nd
      have R1 := R.put (i := i) h1 nd'.1 fun b hb' => hb b (List.mem_append_left _ hb')
      obtain ⟨F2, R2', o2, k2⟩ := put_os is os r' B2 _ _ _ R1 h2 nd'.2.1 (fun b hb' => ⟨fun z => (own_put z).elim (hb b (List.mem_append_right _ hb')).1 fun z => nd'.2.2 b z b hb' rfl, (hb b (List.mem_append_right _ hb')).2⟩) (by simpa using l)
      refine ⟨F2, R2', fun a z => ?_, fun j hj => ?_⟩
      · rcases o2 a z with z | z
        · rcases own_put z with z | z
          · exact .inl z
          · exact .inr (List.mem_append_left _ z)
        · exact .inr (List.mem_append_right _ z)
      · show (stAllV is r' (σ.set i (some v)))[j]? = σ[j]?
        rw [k2 j fun z => hj (List.mem_cons_of_mem _ z), List.getElem?_set_ne (show i ≠ j from fun z => hj (by rw [← z]; exact List.mem_cons_self))]
theorem all_may {is : List Nat} (h : is.all (mayB bor) = true) {j : Nat} (hj : bor.getD j false = true) : j ∉ is := fun z => may_ne (List.all_eq_true.mp h j z) hj rfl
theorem snd_pars {sw : Bool} {is : List Nat} {n : Nat} {ts : TA} {es : M (List O)} (hs : SndVs K ts es) (hn : ∀ env os env', es env = some (os, env') → os.length = n) : SndE K bor (tPars sw is ts) (fun env => guardB (is.all (mayB bor) && nodupB is && is.length == n && decide (is.length ≤ 1000)) (match es env with
    | some (os, env1) => some (.nx (stAll is os env1))
    | none => none)) := by
  intro env σ Fz H F R out e D d
  obtain ⟨g, e⟩ := guardB_some e
  simp only [Bool.and_eq_true, beq_iff_eq, decide_eq_true_eq] at g
  split at e
  case h_2 => cases e
  rename_i os env1 e1
  cases e
  refine hs env σ Fz H F R _ _ e1 _ fun vs H1 a1 => ?_
  obtain ⟨Fz1, F1, B, R1, S1, r1, nd, hb⟩ := a1
  have l := RepOs.length _ _ _ r1
  have l2 := hn _ _ _ e1
  refine ⟨by omega, ?_⟩
  split
  · obtain ⟨F2, R2', o2, k2⟩ := put_os is os vs B env1 σ F1 R1 r1 nd hb (by omega)
    exact d _ _ ⟨Fz1, F2, R2', S1.mono o2, fun j hj => k2 j (all_may g.1.1.1 hj)⟩
  · refine ⟨?_, fun p hp => ?_⟩
    · have := g.2
      rw [sizeLine_eq]
      omega
    · have up := Same.upd (u := .tup vs) hp
      have R1' := R1.grow (Same.refl _) (R1.sub.trans up) up (fun a z => .inl z)
      have al := RepOs.alive _ _ _ r1
      obtain ⟨F2, R2', o2, k2⟩ := put_os is os vs B env1 σ F1 R1' (RepOs.frame (Same.refl _) _ _ _ (fun a _ u h => up a u h) r1) nd hb (by omega)
      exact d _ _ ⟨Fz1, F2, R2', ⟨S1.fz, fun a u h n => up a u (S1.hp a u h n), fun a h => Same.ne up (S1.al a h), fun a z => S1.nw a (o2 a z), S1.fn⟩, fun j hj => k2 j (all_may g.1.1.1 hj)⟩
theorem snd_unp {is : List Nat} {f : M O} (h : SndV K t f) : SndE K bor (tAsg t (gTup K is.length (gAll is))) (fun env => guardB (is.all (mayB bor)) (match f env with
    | some (o, env1) => match asTup (.d o.toD) with
      | some xs => if is.length = xs.length then some (.nx (stAll is (xs.map .d) env1)) else none
      | none => none
    | none => none)) := by
  intro env σ Fz H F R out e D d
  obtain ⟨g, e⟩ := guardB_some e
  split at e
  case h_2 => cases e
  rename_i o env1 e1
  split at e
  case h_2 => cases e
  rename_i xs h2
  split at e
  case isFalse => cases e
  rename_i hl
  cases e
  refine h env σ Fz H F R _ _ e1 _ fun v H' a => ?_
  obtain ⟨Fz1, F1, R1, S1, r1⟩ := a.frz
  generalize o.toD = x at h2 r1
  cases x with
  | tuple ys =>
    obtain rfl : ys = xs := Option.some.inj h2
    unfold Rep at r1
    obtain ⟨p, vs, rfl, s1, s2⟩ := r1
    have l := Reps.length _ _ s2
    refine ⟨p, vs, rfl, (s1.mono R1.sub).sqT, by omega, ?_⟩
    exact put_all is ys vs env1 σ F1 R1 s2 hl is (fun i hi => hi) D.nx fun σ1 F2 R2' o2 k1 k2 => d _ _ ⟨Fz1, F2, R2', S1.mono o2, fun j hj => k1 j (all_may g hj)⟩
  | _ => cases h2

/-! ### flow -/
theorem snd_ifs {u : TT} {c : M Bool} {ts us : TS} {a b : Env → Option Out} (hc : SndT K u c) (ha : SndE K bor ts a) (hb : SndE K bor us b) : SndE K bor (tIfS u ts us) (fun env => match c env with
    | some (true, env1) => a env1
    | some (false, env1) => b env1
    | none => none) := by
  intro env σ Fz H F R out e D d
  dsimp only at e
  split at e
  · rename_i env1 e1
    refine hc env σ Fz H F R _ _ e1 _ fun H1 a1 => ?_
    rw [if_pos rfl]
    obtain ⟨Fz1, F1, R1, S1⟩ := a1
    exact ha env1 σ Fz1 H1 F1 R1 _ e D (d.trans S1 fun _ _ => rfl)
  · rename_i env1 e1
    refine hc env σ Fz H F R _ _ e1 _ fun H1 a1 => ?_
    rw [if_neg (by decide)]
    obtain ⟨Fz1, F1, R1, S1⟩ := a1
    exact hb env1 σ Fz1 H1 F1 R1 _ e D (d.trans S1 fun _ _ => rfl)
  · cases e
theorem snd_seq {ts us : TS} {a b : Env → Option Out} (ha : SndE K bor ts a) (hb : SndE K bor us b) : SndE K bor (tSeq ts us) (fun env => match a env with
    | some (.nx env1) => b env1
    | some o => some o
    | none => none) := by
  intro env σ Fz H F R out e D d
  dsimp only at e
  split at e
  · rename_i env1 e1
    refine ha env σ Fz H F R _ e1 _ fun σ1 H1 a1 => ?_
    obtain ⟨Fz1, F1, R1, S1, b1⟩ := a1
    exact hb env1 σ1 Fz1 H1 F1 R1 _ e D (d.trans S1 b1)
  · rename_i o ho e1
    cases e
    refine ha env σ Fz H F R _ e1 _ ?_
    cases out with
    | nx env' => exact absurd rfl (ho env')
    | bk _ => exact d
    | ct _ => exact d
    | rt _ _ => exact d
  · cases e
theorem tg_may {tg : Tg} (h : tgMay bor tg = true) : ∃ W, tgSub tg W = true ∧ ∀ j, bor.getD j false = true → j ∉ W := by
  cases tg with
  | name i => exact ⟨[i], by simp [tgSub], fun j hj z => may_ne h hj (List.mem_singleton.mp z).symm⟩
  | tup is => exact ⟨is, by simp [tgSub], fun j hj => all_may h hj⟩
theorem snd_for {wi : TI} {src : M Items} {tg : Tg} {ts : TS} {body : Env → Option Out} (hs : SndS K wi src) (hb : SndE K bor ts body) : SndE K bor (tFor wi (trTg K tg) ts) (fun env => guardB (tgMay bor tg) (match src env with
    | some ((items, none), env1) => forL (fun x e => match stTg tg x e with
      | some e1 => body e1
      | none => none) items env1
    | _ => none)) := by
  intro env σ Fz H F R out e D d
  obtain ⟨g, e⟩ := guardB_some e
  split at e
  case h_2 => cases e
  rename_i items env1 e1
  obtain ⟨W, w1, w2⟩ := tg_may g
  refine hs env σ Fz H F R _ _ _ e1 _ fun J H1 Fz1 F1 R1 S1 iw => ?_
  have d1 := d.trans (σ1 := σ) S1 fun _ _ => rfl
  refine ⟨fun i m σ2 H2 => m = items.length - i ∧ i ≤ items.length ∧ ∃ env3 Fz3 F3, Rel K env3 σ2 Fz3 H2 F3 ∧ Same Fz1 Fz3 ∧ forL (fun x e => match stTg tg x e with
      | some e1 => body e1
      | none => none) (items.drop i) env3 = some out ∧ OutR K bor σ2 Fz3 H2 F3 D out,
    ⟨items.length, by omega, Nat.zero_le _, env1, Fz1, F1, R1, Same.refl _, by rw [List.drop_zero]; exact e, d1⟩, ?_⟩
  rintro i m σ2 H2 ⟨rfl, hi, env3, Fz3, F3, R3, s3, run, d3⟩
  obtain ⟨st, go⟩ := iw Fz3 H2 s3 R3.sub trivial i
  by_cases hlt : i < items.length
  · have hd : items.drop i = items[i] :: items.drop (i + 1) := List.drop_eq_getElem_cons hlt
    obtain ⟨g1, g2⟩ := go _ (List.getElem?_eq_getElem hlt)
    rw [hd] at run
    unfold forL at run
    refine .inr ⟨g1, fun σ' H' => ∃ m', m' < items.length - i ∧ (m' = items.length - (i + 1) ∧ i + 1 ≤ items.length ∧ ∃ env3 Fz3 F3, Rel K env3 σ' Fz3 H' F3 ∧ Same Fz1 Fz3 ∧ forL (fun x e => match stTg tg x e with
      | some e1 => body e1
      | none => none) (items.drop (i + 1)) env3 = some out ∧ OutR K bor σ' Fz3 H' F3 D out), fun σ' H' h => h, fun x H' y => ?_⟩
    have next : ∀ env4 σ' H'', AftS K bor σ2 Fz3 H2 F3 env4 σ' H'' → forL (fun x e => match stTg tg x e with
      | some e1 => body e1
      | none => none) (items.drop (i + 1)) env4 = some out → ∃ m', m' < items.length - i ∧ (m' = items.length - (i + 1) ∧ i + 1 ≤ items.length ∧ ∃ env3 Fz3 F3, Rel K env3 σ' Fz3 H'' F3 ∧ Same Fz1 Fz3 ∧ forL (fun x e => match stTg tg x e with
      | some e1 => body e1
      | none => none) (items.drop (i + 1)) env3 = some out ∧ OutR K bor σ' Fz3 H'' F3 D out) := fun env4 σ' H'' a r => by
      obtain ⟨Fz4, F4, R4, S4, b4⟩ := a
      exact ⟨items.length - (i + 1), by omega, rfl, hlt, env4, Fz4, F4, R4, s3.trans S4.fz, r, d3.trans S4 b4⟩
    split at run
    · rename_i env4 t1
      split at t1
      case h_2 => cases t1
      rename_i e5 t5
      refine snd_tg R3 (g2 x H' y) t5 _ w1 fun σ3 F4 R4 S4 k1 k2 => ?_
      exact hb e5 σ3 Fz3 H' F4 R4 _ t1 _ fun σ' H'' a => next env4 σ' H'' (a.trans S4 fun j hj => k1 j (w2 j hj)) run
    · rename_i env4 t1
      split at t1
      case h_2 => cases t1
      rename_i e5 t5
      refine snd_tg R3 (g2 x H' y) t5 _ w1 fun σ3 F4 R4 S4 k1 k2 => ?_
      exact hb e5 σ3 Fz3 H' F4 R4 _ t1 _ fun σ' H'' a => next env4 σ' H'' (a.trans S4 fun j hj => k1 j (w2 j hj)) run
    · rename_i env4 t1
      cases run
      split at t1
      case h_2 => cases t1
      rename_i e5 t5
      refine snd_tg R3 (g2 x H' y) t5 _ w1 fun σ3 F4 R4 S4 k1 k2 => ?_
      exact hb e5 σ3 Fz3 H' F4 R4 _ t1 _ fun σ' H'' a => d3 σ' H'' (a.trans S4 fun j hj => k1 j (w2 j hj))
    · rename_i o env4 t1
      cases run
      split at t1
      case h_2 => cases t1
      rename_i e5 t5
      refine snd_tg R3 (g2 x H' y) t5 _ w1 fun σ3 F4 R4 S4 k1 k2 => ?_
      exact hb e5 σ3 Fz3 H' F4 R4 _ t1 _ fun v H'' a => d3 v H'' (a.trans S4 fun j hj => k1 j (w2 j hj))
    · cases run
  · have he : i = items.length := by omega
    have hd : items.drop i = [] := by rw [he, List.drop_length]
    rw [hd] at run
    unfold forL at run
    cases run
    exact .inl ⟨st (by omega), d3 σ2 H2 ⟨Fz3, F3, R3, Stp.refl, fun _ _ => rfl⟩⟩
theorem snd_while {u : TT} {c : M Bool} {ts : TS} {body : Env → Option Out} (n : Nat) (hc : SndT K u c) (hb : SndE K bor ts body) : SndE K bor (tWhile u ts) (fun env => whileL c body n env) := by
  intro env σ Fz H F R out e D d
  refine ⟨fun m σ2 H2 => ∃ env3 Fz3 F3, Rel K env3 σ2 Fz3 H2 F3 ∧ whileL c body m env3 = some out ∧ OutR K bor σ2 Fz3 H2 F3 D out, ⟨n, env, Fz, F, R, e, d⟩, ?_⟩
  rintro m σ2 H2 ⟨env3, Fz3, F3, R3, run, d3⟩
  cases m with
  | zero => unfold whileL at run; cases run
  | succ m =>
    unfold whileL at run
    split at run
    · rename_i env4 e4
      refine hc env3 σ2 Fz3 H2 F3 R3 _ _ e4 _ fun H4 a4 => ?_
      obtain ⟨Fz4, F4, R4, S4⟩ := a4
      have d4 := d3.trans (σ1 := σ2) S4 fun _ _ => rfl
      rw [if_pos rfl]
      refine ⟨fun σ' H' => ∃ m', m' < m + 1 ∧ ∃ env3 Fz3 F3, Rel K env3 σ' Fz3 H' F3 ∧ whileL c body m' env3 = some out ∧ OutR K bor σ' Fz3 H' F3 D out, fun σ' H' h => h, ?_⟩
      split at run
      · rename_i env5 t5
        refine hb env4 σ2 Fz4 H4 F4 R4 _ t5 _ fun σ' H' a => ?_
        obtain ⟨Fz5, F5, R5, S5, b5⟩ := a
        exact ⟨m, by omega, env5, Fz5, F5, R5, run, d4.trans S5 b5⟩
      · rename_i env5 t5
        refine hb env4 σ2 Fz4 H4 F4 R4 _ t5 _ fun σ' H' a => ?_
        obtain ⟨Fz5, F5, R5, S5, b5⟩ := a
        exact ⟨m, by omega, env5, Fz5, F5, R5, run, d4.trans S5 b5⟩
      · rename_i env5 t5
        cases run
        exact hb env4 σ2 Fz4 H4 F4 R4 _ t5 _ fun σ' H' a => d4 σ' H' a
      · rename_i o env5 t5
        cases run
        exact hb env4 σ2 Fz4 H4 F4 R4 _ t5 _ fun v H' a => d4 v H' a
      · cases run
    · rename_i env4 e4
      cases run
      refine hc env3 σ2 Fz3 H2 F3 R3 _ _ e4 _ fun H4 a4 => ?_
      rw [if_neg (by decide)]
      exact d3 _ _ a4.aft
    · cases run

/-! ### return -/
theorem snd_ret {f : M O} (h : SndV K t f) : SndE K bor (tRet t) (fun env => match f env with
    | some (o, env1) => some (.rt o env1)
    | none => none) := by
  intro env σ Fz H F R out e D d
  dsimp only at e
  split at e
  case h_2 => cases e
  rename_i o env1 e1
  cases e
  refine h env σ Fz H F R _ _ e1 _ fun v H' a => ?_
  obtain ⟨Fz1, F1, B, R1, S1, r1, nd, hb⟩ := a
  exact d _ _ ⟨σ, Fz1, F1, B, R1, S1, r1, nd, hb, fun _ _ => rfl⟩
theorem snd_retN : SndE K bor tRetN (fun env => some (.rt (.d .none) env)) := by
  intro env σ Fz H F R out e D d
  cases e
  exact d _ _ ⟨σ, Fz, F, [], R, Stp.refl.mono fun a z => z.elim id fun q => absurd q List.not_mem_nil, by unfold RepO; exact ⟨rfl, by unfold Rep; rfl⟩, List.nodup_nil, fun b q => absurd q List.not_mem_nil, fun _ _ => rfl⟩
/-- a slot is dropped -/
theorem Rel.drop (R : Rel K env σ Fz H F) (i : Nat) : Rel K (env.set i none) σ Fz H (fun j => if j = i then [] else F j) := by
  refine ⟨R.sub, by rw [List.length_set]; exact R.len, fun j x e => ?_, fun j e => ?_, fun j => ?_, fun j k a h1 h2 => ?_, fun j a h => ?_⟩
  · rw [look_set] at e
    split at e
    · cases e
    · rename_i hn
      have hj : j ≠ i := fun z => by
        subst z
        exact hn ⟨rfl, look_lt e⟩
      rw [if_neg hj]
      exact R.sl j x e
  · rw [look_set] at e
    show (if j = i then [] else F j) = []
    split
    · rfl
    · rename_i hj
      rw [if_neg fun z => hj z.1.symm] at e
      exact R.no j e
  · show (if j = i then [] else F j).Nodup
    split
    · exact List.nodup_nil
    · exact R.nd j
  · have h1 : a ∈ (if j = i then [] else F j) := h1
    have h2 : a ∈ (if k = i then [] else F k) := h2
    split at h1
    · exact absurd h1 List.not_mem_nil
    · split at h2
      · exact absurd h2 List.not_mem_nil
      · exact R.dj j k a h1 h2
  · have h : a ∈ (if j = i then [] else F j) := h
    split at h
    · exact absurd h List.not_mem_nil
    · exact R.fz j a h
theorem snd_retV (i : Nat) : SndE K bor (tRet (tVar i)) (fun env => match look env i with
    | some (.lst os) => if mayB bor i = true then some (.rt (.lst os) (env.set i none)) else some (.rt (.d (O.toD (.lst os))) (env.set i (some (.d (O.toD (.lst os))))))
    | some o => some (.rt o env)
    | none => none) := by
  intro env σ Fz H F R out e D d
  dsimp only at e
  split at e
  · rename_i os h
    split at e
    · cases e
      obtain ⟨v, hv, r⟩ := R.sl i _ h
      refine ⟨v, hv, d _ _ ⟨σ, Fz, _, F i, R.drop i, Stp.refl.mono fun a z => ?_, r, R.nd i, fun b hb => ⟨fun z => ?_, R.fz i b hb⟩, fun _ _ => rfl⟩⟩
      · rcases z with ⟨j, z⟩ | z
        · have z : a ∈ (if j = i then [] else F j) := z
          split at z
          · exact absurd z List.not_mem_nil
          · exact ⟨j, z⟩
        · exact ⟨i, z⟩
      · obtain ⟨j, z⟩ := z
        have z : b ∈ (if j = i then [] else F j) := z
        split at z
        · exact absurd z List.not_mem_nil
        · rename_i hj
          exact hj (R.dj j i b z hb)
    · cases e
      obtain ⟨v, Fz', hv, R', S, r⟩ := R.frzSlot h
      refine ⟨v, hv, d _ _ ⟨σ, Fz', _, [], R', S.mono fun a z => z.elim id fun q => absurd q List.not_mem_nil, by unfold RepO; exact ⟨rfl, r⟩, List.nodup_nil, fun b q => absurd q List.not_mem_nil, fun _ _ => rfl⟩⟩
  · rename_i o hn h
    cases e
    cases o with
    | lst os => exact absurd rfl (hn os)
    | d x =>
      obtain ⟨v, hv, r⟩ := R.slotD h
      exact ⟨v, hv, d _ _ ⟨σ, Fz, F, [], R, Stp.refl.mono fun a z => z.elim id fun q => absurd q List.not_mem_nil, by unfold RepO; exact ⟨rfl, r⟩, List.nodup_nil, fun b q => absurd q List.not_mem_nil, fun _ _ => rfl⟩⟩
  · cases e
theorem snd_expr {f : M O} (h : SndV K t f) : SndE K bor (tDrop t) (fun env => match f env with
    | some (_, env1) => some (.nx env1)
    | none => none) := by
  intro env σ Fz H F R out e D d
  dsimp only at e
  split at e
  case h_2 => cases e
  rename_i o env1 e1
  cases e
  exact h env σ Fz H F R _ _ e1 _ fun v H' a => d _ _ a.u.aft
end
end PD
end

section
set_option Elab.async false
set_option linter.all false
set_option maxRecDepth 100000
set_option maxHeartbeats 1000000
/-! PD: changes of own lists; statements, all of them; functions. -/
namespace PD
open PySem PySem.Spec PyProof.Rows L2

section
variable {K : PySem.W.Frag} {bor : List Bool} {env env' : Env} {σ σ' : L2.St} {Fz H H2 Fz' H' : Hp} {F F' : Nat → List Addr} {t ta tb tc : TE}
/-- a slot's own thing has been changed in its place -/
theorem Rel.modify (R : Rel K env σ Fz H F) {i : Nat} {o o' : O} {v : V} {A' : List Addr} (hi : look env i = some o) (hv : σ[i]? = some (some v)) (hH : ∀ b u, b ∉ F i → H b = some u → H2 b = some u) (r : RepO K Fz H2 o' v A') (nd : A'.Nodup)
    (hz : ∀ b ∈ A', Fz b = none) (ap : ∀ b ∈ A', ∀ j, j ≠ i → b ∉ F j) : Rel K (env.set i (some o')) σ Fz H2 (fun j => if j = i then A' else F j) := by
  have hl := look_lt hi
  refine ⟨fun b u h => hH b u (fun z => by rw [R.fz i b z] at h; cases h) (R.sub b u h), by rw [List.length_set]; exact R.len, fun j x e => ?_, fun j e => ?_, fun j => ?_, fun j k a h1 h2 => ?_, fun j a h => ?_⟩
  · rw [look_set] at e
    show ∃ v, σ[j]? = some (some v) ∧ RepO K Fz H2 x v (if j = i then A' else F j)
    by_cases hj : i = j
    · subst hj
      rw [if_pos ⟨rfl, hl⟩] at e
      cases e
      rw [if_pos rfl]
      exact ⟨v, hv, r⟩
    · rw [if_neg fun z => hj z.1] at e
      rw [if_neg (Ne.symm hj)]
      obtain ⟨w, h1, h2⟩ := R.sl j x e
      exact ⟨w, h1, RepO.frame (Same.refl _) x w _ (fun b hb u h => hH b u (fun z => hj (R.dj i j b z hb)) h) h2⟩
  · rw [look_set] at e
    show (if j = i then A' else F j) = []
    by_cases hj : i = j
    · subst hj
      rw [if_pos ⟨rfl, hl⟩] at e
      cases e
    · rw [if_neg fun z => hj z.1] at e
      rw [if_neg (Ne.symm hj)]
      exact R.no j e
  · show (if j = i then A' else F j).Nodup
    split
    · exact nd
    · exact R.nd j
  · have h1 : a ∈ (if j = i then A' else F j) := h1
    have h2 : a ∈ (if k = i then A' else F k) := h2
    split at h1
    · rename_i e1
      split at h2
      · rename_i e2; rw [e1, e2]
      · rename_i e2; exact absurd h2 (ap a h1 k e2)
    · rename_i e1
      split at h2
      · exact absurd h1 (ap a h2 j e1)
      · exact R.dj j k a h1 h2
  · have h : a ∈ (if j = i then A' else F j) := h
    split at h
    · exact hz a h
    · exact R.fz j a h
/-- .. and the step -/
theorem modify_stp {A : Addr → Prop} {i : Nat} {A' : List Addr} (hH : ∀ b u, b ∉ F i → H b = some u → H2 b = some u) (al : ∀ b ∈ F i, H2 b ≠ none) (hA : ∀ a, Own F a → A a) (hA' : ∀ b ∈ A', A b) :
    Stp Fz H A Fz H2 (Own fun j => if j = i then A' else F j) := by
  refine ⟨Same.refl _, fun a u h n => hH a u (fun z => n (hA a ⟨i, z⟩)) h, fun a h => ?_, fun a z => ?_, fun a h => .inl h⟩
  · by_cases q : a ∈ F i
    · exact al a q
    · cases q2 : H a with
      | none => exact absurd q2 h
      | some u => rw [hH a u q q2]; exact fun z => nomatch z
  · obtain ⟨j, z⟩ := z
    have z : a ∈ (if j = i then A' else F j) := z
    split at z
    · exact .inl (hA' a z)
    · exact .inl (hA a ⟨j, z⟩)
/-- a term's value beside a slot's own list -/
theorem aside {Fz1 H1 : Hp} {F1 : Nat → List Addr} {B : List Addr} {i : Nat} (hb : ∀ b ∈ B, ¬ Own F1 b ∧ Fz1 b = none) : ∀ b ∈ B, ∀ j, b ∉ F1 j := fun b h j z => (hb b h).1 ⟨j, z⟩
/-- x.append(y) -/
theorem snd_app {f : M O} {i : Nat} (h : SndV K t f) : SndE K bor (tDrop (tBM K "list" rAppend (tVar i) (tCons t tNil))) (fun env => match look env i with
    | some (.lst _) => match f env with
      | some (o, env1) => match look env1 i with
        | some (.lst os) => guardB (decide (os.length < sizeLine)) (some (.nx (env1.set i (some (.lst (os ++ [o]))))))
        | _ => none
      | none => none
    | _ => none) := by
  intro env σ Fz H F R out e D d
  dsimp only at e
  split at e
  case h_2 => cases e
  rename_i os0 h0
  split at e
  case h_2 => cases e
  rename_i o env1 e1
  split at e
  case h_2 => cases e
  rename_i os h1
  obtain ⟨g, e⟩ := guardB_some e
  cases e
  obtain ⟨v, hv, r0⟩ := R.sl i _ h0
  unfold RepO at r0
  obtain ⟨a, vs0, B0, rfl, k0, _, _⟩ := r0
  refine ⟨_, hv, .inl ⟨rfl, vs0, SqL.of k0⟩, ?_⟩
  refine h env σ Fz H F R _ _ e1 _ fun y H2 a2 => ?_
  obtain ⟨Fz1, F1, C, R1, S1, r1, nC, hC⟩ := a2
  obtain ⟨v, hv', r⟩ := R1.sl i _ h1
  rw [hv] at hv'
  cases hv'
  unfold RepO at r
  obtain ⟨a', vs, B, ea, k1, eF, r2⟩ := r
  cases ea
  have l := RepOs.length _ _ _ r2
  have g := of_decide_eq_true g
  have ndF := R1.nd i
  rw [eF] at ndF
  obtain ⟨aB, nB⟩ := List.nodup_cons.mp ndF
  have inF : ∀ b, b = a ∨ b ∈ B → b ∈ F1 i := fun b z => by rw [eF]; exact List.mem_cons.mpr z
  have aC : a ∉ C := fun z => (hC a z).1 ⟨i, inF a (.inl rfl)⟩
  have hH : ∀ b u, b ∉ F1 i → H2 b = some u → upd H2 a (.lst (vs ++ [y])) b = some u := fun b u n hb => by
    rw [upd_ne fun z => n (inF b (.inl z))]
    exact hb
  have up : ∀ b, b ≠ a → ∀ u, H2 b = some u → upd H2 a (.lst (vs ++ [y])) b = some u := fun b n u hb => by rw [upd_ne n]; exact hb
  have R2' := R1.modify (o' := .lst (os ++ [o])) (A' := a :: (B ++ C)) h1 hv hH (by
      unfold RepO
      refine ⟨a, vs ++ [y], B ++ C, rfl, upd_same, rfl, RepOs.app (RepOs.frame (Same.refl _) _ _ _ (fun b hb u q => up b (fun z => aB (z ▸ hb)) u q) r2) (RepOs.one (RepO.frame (Same.refl _) o y C (fun b hb u q => up b (fun z => aC (z ▸ hb)) u q) r1))⟩)
    (List.nodup_cons.mpr ⟨fun z => (List.mem_append.mp z).elim aB aC, nodup_app nB nC fun b hb hc => (hC b hc).1 ⟨i, inF b (.inr hb)⟩⟩)
    (fun b hb => by
      rcases List.mem_cons.mp hb with z | z
      · exact R1.fz i b (inF b (.inl z))
      · rcases List.mem_append.mp z with z | z
        · exact R1.fz i b (inF b (.inr z))
        · exact (hC b z).2)
    (fun b hb j hj hm => by
      rcases List.mem_cons.mp hb with z | z
      · exact hj (R1.dj j i b hm (inF b (.inl z)))
      · rcases List.mem_append.mp z with z | z
        · exact hj (R1.dj j i b hm (inF b (.inr z)))
        · exact (hC b z).1 ⟨j, hm⟩)
  refine ⟨a, vs, y, rfl, rfl, k1, by omega, d _ _ ⟨Fz1, _, R2', S1.trans (modify_stp hH (fun b hb => ?_) (fun b z => .inl z) fun b hb => ?_), fun _ _ => rfl⟩⟩
  · by_cases q : b = a
    · rw [q, upd_same]; exact fun z => nomatch z
    · rw [upd_ne q]; exact R1.alive ⟨i, hb⟩
  · rcases List.mem_cons.mp hb with z | z
    · exact .inl ⟨i, inF b (.inl z)⟩
    · rcases List.mem_append.mp z with z | z
      · exact .inl ⟨i, inF b (.inr z)⟩
      · exact .inr z
/-- one item of a list is changed in its place: its own objects give way to C -/
theorem RepOs.at : ∀ (os : List O) (vs : List V) (B : List Addr) (j : Nat) (o : O), RepOs K Fz H os vs B → os[j]? = some o → ∃ v B1 B2 B3, vs[j]? = some v ∧ B = B1 ++ (B2 ++ B3) ∧ RepO K Fz H o v B2 ∧
    ∀ (H2 : Hp) (o' : O) (v' : V) (C : List Addr), (∀ b ∈ B1, ∀ u, H b = some u → H2 b = some u) → (∀ b ∈ B3, ∀ u, H b = some u → H2 b = some u) → RepO K Fz H2 o' v' C → RepOs K Fz H2 (os.set j o') (vs.set j v') (B1 ++ (C ++ B3))
  | [], vs, B, j, o, h, e => by simp at e
  | x :: os, vs, B, 0, o, h, e => by
    simp at e
    subst e
    unfold RepOs at h
    obtain ⟨v, r, B1, C1, rfl, rfl, h1, h2⟩ := h
    refine ⟨v, [], B1, C1, rfl, rfl, h1, fun H2 o' v' C k1 k3 hr => ?_⟩
    show RepOs K Fz H2 (o' :: os) (v' :: r) (C ++ C1)
    unfold RepOs
    exact ⟨v', r, C, C1, rfl, rfl, hr, RepOs.frame (Same.refl _) os r C1 k3 h2⟩
  | x :: os, vs, B, j + 1, o, h, e => by
    unfold RepOs at h
    obtain ⟨v, r, B0, C0, rfl, rfl, h1, h2⟩ := h
    obtain ⟨w, B1, B2, B3, e1, e2, h3, q⟩ := RepOs.at os r C0 j o h2 (by simpa using e)
    subst e2
    refine ⟨w, B0 ++ B1, B2, B3, e1, by rw [List.append_assoc], h3, fun H2 o' v' C k1 k3 hr => ?_⟩
    show RepOs K Fz H2 (x :: os.set j o') (v :: r.set j v') (B0 ++ B1 ++ (C ++ B3))
    unfold RepOs
    exact ⟨v, _, B0, B1 ++ (C ++ B3), rfl, List.append_assoc .., RepO.frame (Same.refl _) x v B0 (fun b hb => k1 b (List.mem_append_left _ hb)) h1, q H2 o' v' C (fun b hb => k1 b (List.mem_append_right _ hb)) k3 hr⟩
theorem nodup3 {B1 B2 B3 C : List Addr} (h : (B1 ++ (B2 ++ B3)).Nodup) (hC : C.Nodup) (d1 : ∀ b ∈ C, b ∉ B1) (d3 : ∀ b ∈ C, b ∉ B3) : (B1 ++ (C ++ B3)).Nodup := by
  have h := List.nodup_append.mp h
  have h' := List.nodup_append.mp h.2.1
  refine List.nodup_append.mpr ⟨h.1, List.nodup_append.mpr ⟨hC, h'.2.1, fun a ha b hb e => d3 a ha (e ▸ hb)⟩, fun a ha b hb e => ?_⟩
  subst e
  rcases List.mem_append.mp hb with z | z
  · exact d1 a z ha
  · exact h.2.2 a ha a (List.mem_append_right _ z) rfl
theorem ixN_lt {n : Nat} {i : Int} {j : Nat} (h : ixN n i = some j) : j < n := (ixN_seq h).2.1
/-- x[k] = y -/
theorem snd_setix {f g : M O} {i : Nat} (h : SndV K t f) (hk : SndV K tb g) : SndE K bor (tAsg t (gSub (tVar i) tb rSetL)) (fun env => match f env with
    | some (o, env1) => match look env1 i with
      | some (.lst _) => match g env1 with
        | some (.d (.int z), env2) => match look env2 i with
          | some (.lst os) => match ixN os.length z with
            | some j => some (.nx (env2.set i (some (.lst (os.set j o)))))
            | none => none
          | _ => none
        | _ => none
      | _ => none
    | none => none) := by
  intro env σ Fz H F R out e D d
  dsimp only at e
  split at e
  case h_2 => cases e
  rename_i o env1 e1
  split at e
  case h_2 => cases e
  rename_i os0 h0
  split at e
  case h_2 => cases e
  rename_i z env2 e2
  split at e
  case h_2 => cases e
  rename_i os h1
  split at e
  case h_2 => cases e
  rename_i j hj
  cases e
  refine h env σ Fz H F R _ _ e1 _ fun y H1 a1 => ?_
  obtain ⟨Fz1, F1, C, R1, S1, r1, nC, hC⟩ := a1
  obtain ⟨v, hv, r0⟩ := R1.sl i _ h0
  refine ⟨v, hv, hk env1 σ Fz1 H1 F1 R1 _ _ e2 _ fun y2 H2 a2 => ?_⟩
  obtain ⟨rfl, Fz2, F2, R2', S2⟩ := a2.intU
  obtain ⟨c1, c2⟩ := S2.hold (RepO.alive _ _ _ r1) hC
  have rC := RepO.frame S2.fz o y C c1 r1
  obtain ⟨v', hv', r⟩ := R2'.sl i _ h1
  rw [hv] at hv'
  cases hv'
  unfold RepO at r
  obtain ⟨a, vs, B, rfl, k1, eF, r2⟩ := r
  have l := RepOs.length _ _ _ r2
  have ndF := R2'.nd i
  rw [eF] at ndF
  obtain ⟨aB, nB⟩ := List.nodup_cons.mp ndF
  have inF : ∀ b, b = a ∨ b ∈ B → b ∈ F2 i := fun b z => by rw [eF]; exact List.mem_cons.mpr z
  have aC : a ∉ C := fun z => (c2 a z).1 ⟨i, inF a (.inl rfl)⟩
  have hH : ∀ b u, b ∉ F2 i → H2 b = some u → upd H2 a (.lst (vs.set j y)) b = some u := fun b u n hb => by
    rw [upd_ne fun z => n (inF b (.inl z))]
    exact hb
  have hjl : j < os.length := ixN_lt hj
  obtain ⟨w, B1, B2, B3, _, eB, rw1, q⟩ := RepOs.at os vs B j _ r2 (List.getElem?_eq_getElem hjl)
  have i1 : ∀ b, b ∈ B1 → b ∈ B := fun b z => by rw [eB]; exact List.mem_append_left _ z
  have i3 : ∀ b, b ∈ B3 → b ∈ B := fun b z => by rw [eB]; exact List.mem_append_right _ (List.mem_append_right _ z)
  have r3 := q (upd H2 a (.lst (vs.set j y))) o y C (fun b hb u e => by rw [upd_ne fun z => aB (by rw [← z]; exact i1 b hb)]; exact e) (fun b hb u e => by rw [upd_ne fun z => aB (by rw [← z]; exact i3 b hb)]; exact e)
    (RepO.frame (Same.refl _) o y C (fun b hb u e => by rw [upd_ne fun z => aC (by rw [← z]; exact hb)]; exact e) rC)
  have sub : ∀ b ∈ B1 ++ (C ++ B3), b ∈ B ∨ b ∈ C := fun b hb => by
    rcases List.mem_append.mp hb with z | z
    · exact .inl (i1 b z)
    · rcases List.mem_append.mp z with z | z
      · exact .inr z
      · exact .inl (i3 b z)
  have R3 := R2'.modify (o' := .lst (os.set j o)) (A' := a :: (B1 ++ (C ++ B3))) h1 hv hH (by
      unfold RepO
      exact ⟨a, _, _, rfl, upd_same, rfl, r3⟩)
    (List.nodup_cons.mpr ⟨fun z => (sub a z).elim aB aC, nodup3 (eB ▸ nB) nC (fun b z w => (c2 b z).1 ⟨i, inF b (.inr (i1 b w))⟩) fun b z w => (c2 b z).1 ⟨i, inF b (.inr (i3 b w))⟩⟩)
    (fun b hb => by
      rcases List.mem_cons.mp hb with z | z
      · exact R2'.fz i b (inF b (.inl z))
      · rcases sub b z with z | z
        · exact R2'.fz i b (inF b (.inr z))
        · exact (c2 b z).2)
    (fun b hb j hj hm => by
      rcases List.mem_cons.mp hb with z | z
      · exact hj (R2'.dj j i b hm (inF b (.inl z)))
      · rcases sub b z with z | z
        · exact hj (R2'.dj j i b hm (inF b (.inr z)))
        · exact (c2 b z).1 ⟨j, hm⟩)
  have T : Stp Fz H (Own F) Fz2 H2 (fun a => Own F2 a ∨ a ∈ C) := by
    have T := (S1.mono (A2 := Own F1) fun a z => .inl z).trans S2
    refine ⟨T.fz, T.hp, T.al, fun b z => ?_, T.fn⟩
    rcases z with z | z
    · exact T.nw b z
    · exact S1.nw b (.inr z)
  refine ⟨a, vs, z, j, rfl, rfl, k1, by rw [l]; exact hj, d _ _ ⟨Fz2, _, R3, T.trans (modify_stp hH (fun b hb => ?_) (fun b z => .inl z) fun b hb => ?_), fun _ _ => rfl⟩⟩
  · by_cases q : b = a
    · rw [q, upd_same]; exact fun z => nomatch z
    · rw [upd_ne q]; exact R2'.alive ⟨i, hb⟩
  · rcases List.mem_cons.mp hb with z | z
    · exact .inl ⟨i, inF b (.inl z)⟩
    · rcases sub b z with z | z
      · exact .inl ⟨i, inF b (.inr z)⟩
      · exact .inr z
/-- x[k].append(y), y a name that holds data -/
theorem snd_appix {g : M O} {i j : Nat} (hk : SndV K tb g) : SndE K bor (tDrop (tBM K "list" rAppend (tOp (rIxA K) (tVar i) tb) (tCons (tVar j) tNil))) (fun env => match look env i with
    | some _ => match g env with
      | some (.d (.int z), env1) => match look env1 i, look env1 j with
        | some (.lst os), some (.d x) => match ixN os.length z with
          | some p => match os[p]? with
            | some (.lst qs) => guardB (decide (qs.length < sizeLine)) (some (.nx (env1.set i (some (.lst (os.set p (.lst (qs ++ [.d x]))))))))
            | _ => none
          | none => none
        | _, _ => none
      | _ => none
    | none => none) := by
  intro env σ Fz H F R out e D d
  dsimp only at e
  split at e
  case h_2 => cases e
  rename_i o0 h0
  split at e
  case h_2 => cases e
  rename_i z env1 e1
  split at e
  case h_2 => cases e
  rename_i os x h1 hx
  split at e
  case h_2 => cases e
  rename_i p hp
  split at e
  case h_2 => cases e
  rename_i qs hq
  obtain ⟨gd, e⟩ := guardB_some e
  cases e
  have gd := of_decide_eq_true gd
  obtain ⟨v, hv, _⟩ := R.sl i _ h0
  refine ⟨v, hv, hk env σ Fz H F R _ _ e1 _ fun y H1 a1 => ?_⟩
  obtain ⟨rfl, Fz1, F1, R1, S1⟩ := a1.intU
  obtain ⟨v', hv', r⟩ := R1.sl i _ h1
  rw [hv] at hv'
  cases hv'
  unfold RepO at r
  obtain ⟨a, vs, B, rfl, k1, eF, r2⟩ := r
  have l := RepOs.length _ _ _ r2
  obtain ⟨w, B1, B2, B3, hw, eB, rw1, q⟩ := RepOs.at os vs B p _ r2 hq
  unfold RepO at rw1
  obtain ⟨b, us, B2', rfl, k2, rfl, r3⟩ := rw1
  have l3 := RepOs.length _ _ _ r3
  obtain ⟨y, hy, ry⟩ := R1.slotD hx
  have ndF := R1.nd i
  rw [eF] at ndF
  obtain ⟨aB, nB⟩ := List.nodup_cons.mp ndF
  have inF : ∀ c, c = a ∨ c ∈ B → c ∈ F1 i := fun c z => by rw [eF]; exact List.mem_cons.mpr z
  have bB : b ∈ B := by rw [eB]; exact List.mem_append_right _ (List.mem_append_left _ List.mem_cons_self)
  have ab : a ≠ b := fun z => aB (z ▸ bB)
  rw [eB] at nB
  have nB' := List.nodup_append.mp nB
  have nB'' := List.nodup_append.mp nB'.2.1
  have b1 : b ∉ B1 := fun z => nB'.2.2 b z b (List.mem_append_left _ List.mem_cons_self) rfl
  have b3 : b ∉ B3 := fun z => nB''.2.2 b List.mem_cons_self b z rfl
  have b2 : b ∉ B2' := (List.nodup_cons.mp nB''.1).1
  have r4 := q (upd H1 b (.lst (us ++ [y]))) (.lst (qs ++ [.d x])) (.ref b) (b :: B2') (fun c hc u e => by rw [upd_ne (show c ≠ b from fun z => b1 (z ▸ hc))]; exact e) (fun c hc u e => by rw [upd_ne (show c ≠ b from fun z => b3 (z ▸ hc))]; exact e) (by
    unfold RepO
    have r5 := RepOs.app (RepOs.frame (H' := upd H1 b (.lst (us ++ [y]))) (Same.refl _) _ _ _ (fun c hc u e => by rw [upd_ne (show c ≠ b from fun z => b2 (z ▸ hc))]; exact e) r3) (RepOs.one (o := .d x) (v := y) (C := []) (by unfold RepO; exact ⟨rfl, ry⟩))
    rw [List.append_nil] at r5
    exact ⟨b, us ++ [y], B2', rfl, upd_same, rfl, r5⟩)
  have evs : vs.set p (.ref b) = vs := by
    apply List.ext_getElem?
    intro n
    by_cases hn : p = n
    · subst hn
      rw [hw, List.getElem?_set_self]
      by_cases z : p < vs.length
      · exact z
      · rw [List.getElem?_eq_none (by omega)] at hw; cases hw
    · rw [List.getElem?_set_ne hn]
  rw [evs, ← eB] at r4
  rw [← eB] at nB
  have hH : ∀ c u, c ∉ F1 i → H1 c = some u → upd H1 b (.lst (us ++ [y])) c = some u := fun c u n hc => by
    rw [upd_ne (show c ≠ b from fun z => n (inF c (.inr (z ▸ bB))))]
    exact hc
  have R3 := R1.modify (o' := .lst (os.set p (.lst (qs ++ [.d x])))) (A' := a :: B) h1 hv hH (by
      unfold RepO
      exact ⟨a, vs, B, rfl, by rw [upd_ne ab]; exact k1, rfl, r4⟩) (List.nodup_cons.mpr ⟨aB, nB⟩)
    (fun c hc => R1.fz i c (inF c (List.mem_cons.mp hc))) (fun c hc j hj hm => hj (R1.dj j i c hm (inF c (List.mem_cons.mp hc))))
  refine .inl ⟨a, vs, z, .ref b, rfl, rfl, SqL.of k1, ?_, .inl ⟨rfl, us, SqL.of k2⟩, y, hy, b, us, y, rfl, rfl, k2, by omega, d _ _ ⟨Fz1, _, R3, S1.trans (modify_stp hH (fun c hc => ?_) (fun c z => z) fun c hc => ⟨i, inF c (List.mem_cons.mp hc)⟩), fun _ _ => rfl⟩⟩
  · unfold atI
    rw [l, hp]
    exact hw
  · by_cases q : c = b
    · rw [q, upd_same]; exact fun z => nomatch z
    · rw [upd_ne q]; exact R1.alive ⟨i, hc⟩
end

/-! ### all statements -/
section
variable {c : Cfg} {bor : List Bool}
theorem semVs_len (C : CallT) : ∀ (es : List IE) (env : Env) (os : List O) (env' : Env), semVs C es env = some (os, env') → os.length = es.length
  | [], env, os, env', e => by
    unfold semVs at e
    cases e
    rfl
  | x :: es, env, os, env', e => by
    unfold semVs mCons at e
    split at e
    case h_2 => cases e
    split at e
    case h_2 => cases e
    rename_i e2
    cases e
    rw [List.length_cons, List.length_cons, semVs_len C es _ _ _ e2]
theorem SndE.eq {K : PySem.W.Frag} {t : TS} {f g : Env → Option Out} (h : SndE K bor t g) (e : ∀ env, f env = g env) : SndE K bor t f := fun env σ Fz H F R out e1 => h env σ Fz H F R out (by rw [← e env]; exact e1)
mutual
theorem snd_is (C : CallT) (hc : ∀ f, c.sp f = SpF c.K C f) : ∀ s : IS, SndE c.K bor (trS c s) (ex C bor s)
  | .asg i e => (snd_asg (i := i) (snd_ie C hc e).v).eq fun env => by unfold ex; rfl
  | .pars sw is es => (snd_pars (sw := sw) (is := is) (n := es.length) (snd_vs C hc es) (semVs_len C es)).eq fun env => by unfold ex; rfl
  | .unp is e => (snd_unp (is := is) (snd_ie C hc e).v).eq fun env => by unfold ex; rfl
  | .ifs d a b => (snd_ifs (snd_ie C hc d).t (snd_iss C hc a) (snd_iss C hc b)).eq fun env => by unfold ex; rfl
  | .fors tg src body => by
    have hs : SndS c.K (trI c src) (evSrcF C src) := by
      cases src with
      | seq e => exact snd_sSeq (snd_ie C hc e).v
      | _ => exact snd_src C hc _
    exact (snd_for (tg := tg) hs (snd_iss C hc body)).eq fun env => by unfold ex; rfl
  | .whl d body => (snd_while whileMost (snd_ie C hc d).t (snd_iss C hc body)).eq fun env => by unfold ex; rfl
  | .ret e => by
    have h := snd_ie C hc e
    cases e with
    | var i => exact (snd_retV i).eq fun env => by unfold ex; rfl
    | _ => exact (snd_ret h.v).eq fun env => by unfold ex; rfl
  | .retN => snd_retN.eq fun env => by unfold ex; rfl
  | .app i e => (snd_app (i := i) (snd_ie C hc e).v).eq fun env => by unfold ex; rfl
  | .appix i k j => (snd_appix (i := i) (j := j) (snd_ie C hc k).v).eq fun env => by unfold ex; rfl
  | .setix i k e => (snd_setix (i := i) (snd_ie C hc e).v (snd_ie C hc k).v).eq fun env => by unfold ex; rfl
  | .expr e => (snd_expr (snd_ie C hc e).v).eq fun env => by unfold ex; rfl
  | .brk => by
    intro env σ Fz H F R out e D d
    unfold ex at e
    cases e
    exact d _ _ ⟨Fz, F, R, Stp.refl, fun _ _ => rfl⟩
  | .cnt => by
    intro env σ Fz H F R out e D d
    unfold ex at e
    cases e
    exact d _ _ ⟨Fz, F, R, Stp.refl, fun _ _ => rfl⟩
  | .pass => by
    intro env σ Fz H F R out e D d
    unfold ex at e
    cases e
    exact d _ _ ⟨Fz, F, R, Stp.refl, fun _ _ => rfl⟩
  | .never => by
    intro env σ Fz H F R out e D d
    unfold ex at e
    cases e
theorem snd_iss (C : CallT) (hc : ∀ f, c.sp f = SpF c.K C f) : ∀ ss : List IS, SndE c.K bor (trSs c ss) (exs C bor ss)
  | [] => by
    intro env σ Fz H F R out e D d
    unfold exs at e
    cases e
    exact d _ _ ⟨Fz, F, R, Stp.refl, fun _ _ => rfl⟩
  | s :: ss => (snd_seq (snd_is C hc s) (snd_iss C hc ss)).eq fun env => by
    (conv => lhs; unfold exs)
    first | done | rfl
end
end
end PD
end

section
set_option Elab.async false
set_option linter.all false
set_option maxRecDepth 100000
set_option maxHeartbeats 1000000
/-! PD: functions. -/
namespace PD
open PySem PySem.Spec PyProof.Rows L2

section
variable {K : PySem.W.Frag} {env env' : Env} {σ σ' : L2.St} {Fz H H2 Fz' H' : Hp} {F F' : Nat → List Addr}
def finF (os : List O) (F : Nat → List Addr) (i : Nat) : List Addr := match os[i]? with
  | some o => if isOwn o = true then F i else []
  | none => []
theorem finF_sub {os : List O} {i : Nat} {a : Addr} (h : a ∈ finF os F i) : a ∈ F i ∧ ∃ o, os[i]? = some o ∧ isOwn o = true := by
  unfold finF at h
  split at h
  · rename_i o ho
    split at h
    · rename_i h2; exact ⟨h, o, ho, h2⟩
    · exact absurd h List.not_mem_nil
  · exact absurd h List.not_mem_nil
theorem own_fin {os : List O} {a : Addr} (h : Own (finF os F) a) : Own F a := let ⟨i, h⟩ := h; ⟨i, (finF_sub h).1⟩
theorem bor_own {os : List O} {i : Nat} {o : O} (h : os[i]? = some o) (ho : isOwn o = true) : (os.map isOwn).getD i false = true := by
  rw [List.getD_eq_getElem?_getD, List.getElem?_map, h]
  exact ho
theorem look_fin_some {os : List O} {fin : List (Option O)} {i : Nat} {x : O} (h : look (finEnv os fin) i = some x) : ∃ o, os[i]? = some o ∧ isOwn o = true ∧ (fin[i]?).join = some x := by
  unfold look finEnv at h
  rw [List.getElem?_zipWith] at h
  cases q : os[i]? with
  | none => rw [q] at h; cases h
  | some o =>
    cases q2 : fin[i]? with
    | none => rw [q, q2] at h; cases h
    | some f =>
      rw [q, q2] at h
      simp only [Option.join_some] at h
      by_cases ho : isOwn o = true
      · rw [if_pos ho] at h
        exact ⟨o, rfl, ho, h⟩
      · rw [if_neg ho] at h
        cases h
theorem Rel.fin {os : List O} {vs : List V} {np : Nat} (hl : os.length = np) (hv : vs.length = os.length) (hlen : np ≤ env'.length) (R : Rel K env' σ' Fz' H' F') (hb : ∀ i, (os.map isOwn).getD i false = true → σ'[i]? = (vs.map some)[i]?) :
    Rel K (finEnv os (env'.take np)) (vs.map some) Fz' H' (finF os F') := by
  have lk : ∀ i, i < np → ((env'.take np)[i]?).join = look env' i := fun i hi => by
    unfold look
    rw [List.getElem?_take, if_pos hi]
  refine ⟨R.sub, ?_, fun i x e => ?_, fun i e => ?_, fun i => ?_, fun i j a h1 h2 => R.dj i j a (finF_sub h1).1 (finF_sub h2).1, fun i a h => R.fz i a (finF_sub h).1⟩
  · unfold finEnv
    rw [List.length_zipWith, List.length_map, List.length_take]
    omega
  · obtain ⟨o, ho, hw, e⟩ := look_fin_some e
    have hi : i < np := by
      by_cases q : i < os.length
      · omega
      · rw [List.getElem?_eq_none (by omega)] at ho; cases ho
    rw [lk i hi] at e
    obtain ⟨v, h1, h2⟩ := R.sl i x e
    refine ⟨v, by rw [← hb i (bor_own ho hw)]; exact h1, ?_⟩
    unfold finF
    rw [ho]
    simp only [hw, if_true]
    exact h2
  · unfold finF
    cases q : os[i]? with
    | none => rfl
    | some o =>
      simp only
      split
      · rename_i hw
        have hi : i < np := by
          by_cases z : i < os.length
          · omega
          · rw [List.getElem?_eq_none (by omega)] at q; cases q
        rw [look_fin q hw, lk i hi] at e
        exact R.no i e
      · rfl
  · unfold finF
    split
    · split
      · exact R.nd i
      · exact List.nodup_nil
    · exact List.nodup_nil
theorem Rel.pad {os : List O} {vs : List V} (R : Rel K (os.map some) (vs.map some) Fz H F) {m n : Nat} (hmn : m = n) : Rel K (os.map some ++ List.replicate m none) (vs.map some ++ List.replicate n none) Fz H F := by
  subst hmn
  have lk : ∀ i o, look (os.map some ++ List.replicate m none) i = some o → look (os.map some) i = some o := fun i o e => by
    unfold look at e ⊢
    by_cases q : i < (os.map some).length
    · rw [List.getElem?_append_left q] at e; exact e
    · rw [List.getElem?_append_right (by omega)] at e
      rw [List.getElem?_replicate] at e
      split at e <;> cases e
  refine ⟨R.sub, ?_, fun i o e => ?_, fun i e => ?_, R.nd, R.dj, R.fz⟩
  · rw [List.length_append, List.length_append, R.len, List.length_replicate, List.length_replicate]
  · obtain ⟨v, h1, h2⟩ := R.sl i o (lk i o e)
    refine ⟨v, ?_, h2⟩
    have : i < (vs.map some).length := by
      by_cases q : i < (vs.map some).length
      · exact q
      · rw [List.getElem?_eq_none (by omega)] at h1; cases h1
    rw [List.getElem?_append_left this]
    exact h1
  · refine R.no i ?_
    cases q : look (os.map some) i with
    | none => rfl
    | some o =>
      have hi := look_lt q
      unfold look at e q
      rw [List.getElem?_append_left hi] at e
      rw [e] at q
      cases q
end

section
variable {c : Cfg} {T : List FnRec}
theorem spf_len {n f : Nat} {r : FnRec} (hr : T[f]? = some r) {vs : List V} {H : Hp} {Q : VK} {E : XK} (h : SpF c.K (callF T (n + 1)) f vs H Q E) : vs.length = r.np := by
  obtain ⟨Fz, os, F, o, fin, R, e, hl, q⟩ := h
  unfold callF at e
  rw [hr] at e
  obtain ⟨g, e⟩ := guardB_some e
  simp only [Bool.and_eq_true, beq_iff_eq, decide_eq_true_eq] at g
  have := R.len
  rw [List.length_map, List.length_map] at this
  omega
/-- THE RULE: a function's body keeps what is promised of it -/
theorem spf_body {n f : Nat} {r : FnRec} (hr : T[f]? = some r) (hc : ∀ g, c.sp g = SpF c.K (callF T n) g) {N : List Str} (hN : N.length = r.nl) {vs : List V} {H : Hp} {Q : VK} {E : XK} (h : SpF c.K (callF T (n + 1)) f vs H Q E) :
    trSs c r.body { nx := fun _ H' => Q .non H', rt := Q } (L2.start N vs) H := by
  have hlen := spf_len hr h
  obtain ⟨Fz, os, F, o, fin, R, e, hl, q⟩ := h
  unfold callF at e
  rw [hr] at e
  obtain ⟨g, e⟩ := guardB_some e
  simp only [Bool.and_eq_true, beq_iff_eq, decide_eq_true_eq] at g
  have hv := R.len
  rw [List.length_map, List.length_map] at hv
  have R0 : Rel c.K (os.map some ++ List.replicate (r.nl - r.np) none) (L2.start N vs) Fz H F := R.pad (by omega)
  have snd := snd_iss (bor := os.map isOwn) (callF T n) hc r.body _ _ Fz H F R0
  have st : ∀ i, (os.map isOwn).getD i false = true → (L2.start N vs)[i]? = (vs.map some)[i]? := fun i hi => by
    have : i < os.length := by
      by_cases z : i < os.length
      · exact z
      · rw [List.getD_eq_getElem?_getD, List.getElem?_eq_none (by rw [List.length_map]; omega)] at hi
        cases hi
    unfold L2.start
    rw [List.getElem?_append_left (by rw [List.length_map]; omega)]
  unfold finOk at e
  split at e
  · rename_i o' env1 e1
    cases e
    refine snd _ e1 _ fun v H' a => ?_
    obtain ⟨σ', Fz', F', B, R', S, r1, nd, hb, b⟩ := a
    have hl' : r.np ≤ env1.length := by
      rw [List.length_take] at hl
      omega
    have R2 := R'.fin g.1 (by omega) hl' fun i hi => (b i hi).trans (st i hi)
    exact q v H' ⟨Fz', finF os F', B, R2, S.mono fun a z => z.imp own_fin id, r1, nd, fun b hb' => ⟨fun z => (hb b hb').1 (own_fin z), (hb b hb').2⟩⟩
  · rename_i env1 e1
    cases e
    refine snd _ e1 _ fun σ' H' a => ?_
    obtain ⟨Fz', F', R', S, b⟩ := a
    have hl' : r.np ≤ env1.length := by
      rw [List.length_take] at hl
      omega
    have R2 := R'.fin g.1 (by omega) hl' fun i hi => (b i hi).trans (st i hi)
    refine q .non H' ⟨Fz', finF os F', [], R2, S.mono fun a z => z.elim own_fin fun q => absurd q List.not_mem_nil, ?_, List.nodup_nil, fun b q => absurd q List.not_mem_nil⟩
    unfold RepO
    exact ⟨rfl, by unfold Rep; rfl⟩
  · cases e
end
end PD
namespace PD
open PySem PySem.Spec PyProof.Rows L2
theorem spf0 {P : Program} {w : World} {K : PySem.W.Frag} {mg : Str → Option Value} {base : Heap} {f : Addr} {fd : FuncData} {ps : List Str} {T : List FnRec} (g : Nat) : FnOk P w K mg base CX0 0 f fd ps (SpF K (callF T 0) g) :=
  have no : ∀ vs H Q E, SpF K (callF T 0) g vs H Q E → False := fun vs H Q E h => by
    obtain ⟨Fz, os, F, o, fin, R, e, _⟩ := h
    unfold callF at e
    cases e
  ⟨fun vs H Q E h => (no _ _ _ _ h).elim, fun A outer s H args us vs Q E _ _ _ _ h => (no _ _ _ _ h).elim⟩
/-- the law's promise from what the evaluator says -/
theorem spf_law {K : PySem.W.Frag} {T : List FnRec} {n g : Nat} {ns : List Int} {H : Hp} {a : Addr} {E : XK} (h : ∃ fin, callF T n g [.d (.list (ns.map .int))] = some (.d (.bool true), fin) ∧ fin.length = 1) (hS : SqL K H a (ns.map V.int)) :
    SpF K (callF T n) g [.ref a] H (fun v _ => v = .bl true) E := by
  obtain ⟨fin, e, hl⟩ := h
  refine ⟨H, [.d (.list (ns.map .int))], fun _ => [], _, fin, ⟨Same.refl _, rfl, fun i o e => ?_, fun _ _ => rfl, fun _ => List.nodup_nil, fun _ _ _ h => absurd h List.not_mem_nil, fun _ _ h => absurd h List.not_mem_nil⟩, e, by rw [hl]; rfl, fun v H' a => a.boolU.1⟩
  rw [look_map] at e
  match i, e with
  | 0, e =>
    have e := Option.some.inj e
    subst e
    refine ⟨.ref a, rfl, ?_⟩
    unfold RepO
    refine ⟨rfl, ?_⟩
    unfold Rep
    exact ⟨a, _, rfl, hS, Reps.of_ints ns⟩
  | i + 1, e => simp at e
end PD
end

section
set_option Elab.async false
set_option linter.all false
set_option maxRecDepth 100000
set_option maxHeartbeats 1000000
/-! PD: rules of the walk that the layer lacks. -/
namespace PySem
theorem meets_enumerate_new1 {v : Value} {o : Obj} {H : Heap → Prop} (B : Begins v o H) :
    Meets (Builtin.«enumerate.__new__» ⟨[.type "enumerate", v], []⟩) (fun _ R s => H s.heap ∧
      R (.ok (.ret (.ref (s.heap.push o).objs.size))) { s with heap := (s.heap.push o).push { cls := .type "enumerate", data := .fields #[.none, .bool false, .ref s.heap.objs.size, rawInt 0, .none, .none] } }) :=
  .of_wp fun prog w A R s h => by
    obtain ⟨hp, g, d, tk, os⟩ := s; obtain ⟨h1, h⟩ := h
    have hsub := sub_enumerate
    have q1 : ∀ {A' : Around} {E : Value → Shared → Prop} {Q : Value → Shared → Prop}, Q (.ref hp.objs.size) ⟨hp.push o, g, d, tk, os⟩ → wpAny (model prog w) A' (pyIter v) Q E ⟨hp, g, d, tk, os⟩ :=
      fun q => B.iter prog w _ _ ⟨hp, g, d, tk, os⟩ _ h1 q
    wp_walk using q1
    refine wpAny_stack_any fun st => wpAny_pure ?_
    split
    · rename_i c _ _ _ _ _
      cases (c == Value.type "enumerate")
      · wp_walk using q1
        exact ⟨_, rfl, h⟩
      · wp_walk using q1
        exact ⟨_, rfl, h⟩
    · wp_walk using q1
      exact ⟨_, rfl, h⟩
theorem call_enum_begins {prog : Program} {w : World} {A : Around} {E : Value → Shared → Prop} {s : Shared} {v : Value} {o : Obj} {H : Heap → Prop} {Q : Value → Shared → Prop} (B : Begins v o H) (h1 : H s.heap)
    (h : ∀ h', IsEnum h' (s.heap.objs.size + 1) s.heap.objs.size 0 .none → h'.get? s.heap.objs.size = some o → h'.objs.size = s.heap.objs.size + 2 →
      (∀ b o, s.heap.get? b = some o → h'.get? b = some o) → Q (.ref (s.heap.objs.size + 1)) { s with heap := h' }) :
    wpAny (model prog w) A (call (.type "enumerate") [v]) Q E s := by
  refine callType_new F.called_enumerate (by decide) (F.typeCall_enumerate_1 _) (F.newCall_enumerate_1 _) (fun obj => F.args_object_init_2 obj _) F.entry_enumerate_new
    (meets_enumerate_new1 B) ⟨h1, ?_⟩
  have hz : (s.heap.push o).objs.size = s.heap.objs.size + 1 := Heap.size_push ..
  show _ ∧ _
  rw [hz]
  have he : IsEnum ((s.heap.push o).push { cls := .type "enumerate", data := .fields #[.none, .bool false, .ref s.heap.objs.size, rawInt 0, .none, .none] }) (s.heap.objs.size + 1) s.heap.objs.size 0 .none := by
    have := Heap.get?_push_size (s.heap.push o) (o := { cls := .type "enumerate", data := .fields #[.none, .bool false, .ref s.heap.objs.size, rawInt 0, .none, .none] }) rfl
    rw [hz] at this; exact this
  exact ⟨⟨_, he, rfl⟩, h _ he (Heap.get?_push_of_some _ (Heap.get?_push_size _ B.free)) (by rw [Heap.size_push, hz]) fun b o x => Heap.get?_push_of_some _ (Heap.get?_push_of_some _ x)⟩
end PySem
namespace PD
open PySem PySem.Spec PyProof.Rows L2
theorem turn_enumT {P : Program} {w : World} {K : PySem.W.Frag} {elts : List Expr} {kk : Nat} {tpos : Pos} (a e it : Addr) :
    Turn P w K (.Tuple elts kk tpos) (IteA K a) [e, it] e (fun i h => (∃ old, IsEnum h e it ((i : Nat) : Int) old) ∧ h.IsTupleIter it a i ∧ e ≠ it ∧ a ≠ it ∧ a ≠ e) where
  mem := by simp
  obj := fun i h st b hb => by
    obtain ⟨⟨old, he⟩, ⟨o, ho, hc, hd⟩, _⟩ := st
    have e' : b = e ∨ b = it := by simpa using hb
    rcases e' with z | z
    · rw [z]; exact ⟨_, he, fun v q => nomatch q⟩
    · rw [z]; exact ⟨o, ho, fun v q => by rw [hd] at q; cases q⟩
  keep := fun i h h' st k => let ⟨⟨old, he⟩, hi, hne⟩ := st; ⟨⟨old, k e (by simp) _ he⟩, hi.at fun o q => k it (by simp) o q, hne⟩
  item := by
    intro X hP hw hK hc i pins s σ H E I hf st hg
    subst hP hw hK
    obtain ⟨⟨old, he⟩, hit, hne, hai, hae⟩ := st
    obtain ⟨xs, x, hq, hx⟩ := hg
    obtain ⟨its, rv, p, hz⟩ := I.tuple hq
    obtain ⟨u, hu, ru⟩ := rv.get hx
    have hel : e < s.heap.objs.size := Heap.lt_size he
    have hil : it < s.heap.objs.size := by obtain ⟨_, q, _⟩ := hit; exact Heap.lt_size q
    have hlt : i < its.toArray.size := by
      by_cases q : i < its.toArray.size
      · exact q
      · rw [List.getElem?_eq_none (by simpa using q)] at hu; cases hu
    refine wpAny_pyNext_enum_itemC (Draws.tuple (prog := X.prog) (w := X.w) (A := X.A.in1) (I.ok.hd hc) it a hai its.toArray) he ⟨hit, p⟩ hlt hne (by simp [hne, Ne.symm hae]) fun y h' tk hP ho hst' hT hsz hk => ?_
    have ey : y = u := by
      have : its.toArray[i]? = some y := hP
      rw [show its.toArray[i]? = its[i]? from List.getElem?_toArray ..] at this
      rw [hu] at this
      cases this
      rfl
    subst ey
    refine ⟨_, rfl, wpAny_letOwnedTupleGo_enum (s := { s with heap := h', toks := tk + 1 }) ho fun h'' he' sb => ?_⟩
    have hT2 : h''.get? s.heap.objs.size = some { cls := .type "tuple", data := .seq #[.int i tk, y] } := (sb.2 _ (Nat.ne_of_gt hel)).trans hT
    have new : ObjOk X.prog X.w (upd H s.heap.objs.size (.tup [.int (i : Nat), x])) h'' s.heap.objs.size (.tup [.int (i : Nat), x]) :=
      ⟨by show 2 ≤ sizeLine; decide, [.int i tk, y], .cons ⟨_, rfl⟩ (.cons ru .nil), ⟨_, hT2, rfl, _, rfl⟩⟩
    have I1 : Inv X pins σ (upd H s.heap.objs.size (.tup [.int (i : Nat), x])) { s with heap := h'', toks := tk + 1 } :=
      I.turnedNew (ch := [e, it]) (fun b ob hb q => (sb.2 b (fun z => hb (by simp [z]))).trans (hk b ob (fun z => hb (by simp [z])) (fun z => hb (by simp [z])) q)) hf (Nat.le_refl _) new
    refine ⟨.ref s.heap.objs.size, _, I1, rfl, ⟨_, x, rfl, I.hok.fresh (Nat.le_refl _), rfl, fun ys hy => by rw [I.tuple_inj hy hq]; exact hx⟩, ⟨⟨y, ?_⟩, hst'.1.at fun o q => (sb.2 it (Ne.symm hne)).trans q, hne, hai, hae⟩, fun b hb => ?_⟩
    · have e1 : ((i + 1 : Nat) : Int) = (i : Int) + 1 := by omega
      rw [e1]; exact he'
    · have hb' : b < s.heap.objs.size := by
        have e' : b = e ∨ b = it := by simpa using hb
        rcases e' with z | z
        · rw [z]; exact hel
        · rw [z]; exact hil
      rw [upd_ne (Nat.ne_of_lt hb')]
      exact (hf b hb).1
  done := by
    intro X hP hw hK hc i pins s σ H E I hf st hg
    subst hP hw hK
    obtain ⟨⟨old, he⟩, hit, hne, hai, hae⟩ := st
    obtain ⟨xs, hq, hx⟩ := hg
    obtain ⟨its, rv, p, hz⟩ := I.tuple hq
    obtain ⟨f0, f1, f2, f3, f4, f5⟩ := hf it (by simp)
    have hl := rv.length
    have hi : i = its.toArray.size := by simp; omega
    refine wpAny_pyNext_enum_endD (Draws.tuple (prog := X.prog) (w := X.w) (A := X.A.in1) (I.ok.hd hc) it a hai its.toArray) he ⟨?_, p⟩ fun h' eb => ⟨rfl, I.turned (t' := s.toks) (fun b o hb q => eb b o hb q) f0 f1 f3 f4 f5⟩
    rw [← hi]
    exact hit
  self := fun A i s Q E st h => let ⟨⟨_, he⟩, _⟩ := st; wpAny_pyIter_enum he h
section
variable {X : Cx} {tg : Expr}
theorem pi_seqA {l : Expr} {tl : TE} (hl : PE X l tl) : PI X tg l (iSeqA X.K tl) := ⟨fun pins s σ H R I h => h.elim ((pi_list hl).run pins s σ H R I) ((pi_tup hl).run pins s σ H R I)⟩
theorem pi_enumA {e : Expr} {ta : TA} {p pos tpos : Pos} {elts : List Expr} {kk : Nat} (hg : Gl X "enumerate") (hm : X.mg "enumerate" = none) (ha : PA X [e] ta) (hs : starEach [e] X.env = [(false, eval e X.env)] := by rfl) :
    PI X (.Tuple elts kk tpos) (.Call (.Name "enumerate" p) [e] [] pos) (iEnumA X.K ta) := by
  refine ⟨fun pins s σ H R I h => ?_⟩
  refine Call_ (ld_blt I hg hm boot_enumerate (PyProof.Rows.callWith_type1 (thn (ha.run pos pins s σ H _ I h) fun us s1 ⟨vs, H1, I1, r1, q1⟩ => ?_) hs rfl))
  obtain ⟨a, xs, ex, q⟩ := q1
  subst ex
  cases r1 with
  | cons r rr =>
    cases rr
    cases r
    have fresh : ∀ b ∈ [s1.heap.objs.size + 1, s1.heap.objs.size], FpOk X pins H1 b := fun b hb => by
      have e' : b = s1.heap.objs.size + 1 ∨ b = s1.heap.objs.size := by simpa using hb
      have hle : s1.heap.objs.size ≤ b := by
        rcases e' with z | z
        · rw [z]; exact Nat.le_add_right _ _
        · rw [z]; exact Nat.le_refl _
      exact I1.fpOk hle (I1.hok.fresh hle)
    rcases q with ⟨hq, q⟩ | ⟨hq, q⟩
    · obtain ⟨its, rv, p', hz⟩ := I1.list hq
      refine call_enumerate_list p'.isList fun h' he hit hsz hk => wpAny_pyIter_enum he ?_
      have I2 : Inv X pins σ H1 { s1 with heap := h' } := I1.kept (t' := s1.toks) hk
      exact ⟨s1.heap.objs.size + 1, [s1.heap.objs.size + 1, s1.heap.objs.size], _, _, H1, rfl, I2, turn_enum a (s1.heap.objs.size + 1) s1.heap.objs.size, ⟨⟨.none, he⟩, hit, Nat.succ_ne_self _⟩, fresh, q⟩
    · obtain ⟨its, rv, p', hz⟩ := I1.tuple hq
      have p' : s1.heap.IsTuple a its.toArray := p'
      have hlt : a < s1.heap.objs.size := by obtain ⟨_, q, _⟩ := p'; exact Heap.lt_size q
      refine call_enum_begins (begins_tuple a its.toArray) p' fun h' he hit hsz hk => wpAny_pyIter_enum he ?_
      have I2 : Inv X pins σ H1 { s1 with heap := h' } := I1.kept (t' := s1.toks) hk
      exact ⟨s1.heap.objs.size + 1, [s1.heap.objs.size + 1, s1.heap.objs.size], _, _, H1, rfl, I2, turn_enumT a (s1.heap.objs.size + 1) s1.heap.objs.size, ⟨⟨.none, he⟩, ⟨_, hit, rfl, rfl⟩, Nat.succ_ne_self _, Nat.ne_of_lt hlt, Nat.ne_of_lt (Nat.lt_succ_of_lt hlt)⟩, fresh, q⟩
theorem pe_tupF {es : List Expr} {t : TA} {k : Nat} {pos : Pos} (h : PA X es t) : PE X (.Tuple es k pos) (tTupF t) := by
  refine ⟨fun pins s σ H Q I hq => ?_⟩
  refine wpAny_Tuple_spliced (thn (h.run pos pins s σ H _ I hq) fun us s1 ⟨xs, H1, I1, r, z, q⟩ => ⟨by rw [← r.length]; exact z, ?_⟩)
  exact ⟨.ref s1.heap.objs.size, _, laidT (t' := s1.toks) I1 r z, rfl, q _ { cls := .type "tuple", data := .seq us.toArray } I1.fresh rfl rfl⟩
end
end PD
end

section
set_option Elab.async false
set_option linter.all false
set_option maxRecDepth 100000
set_option maxHeartbeats 1000000
/-! PD: the rules of the walk by IR terms. -/
namespace PD
open PySem PySem.Spec PyProof.Rows L2

abbrev cfg (X : Cx) (sp : Nat → Sp) : Cfg := ⟨X.K, X.w, sp⟩
structure PX (X : Cx) (e : Expr) (t : T2) : Prop where
  v : PE X e t.v
  t : PT X e t.t
structure PB (X : Cx) (e : Expr) (t : T2) : Prop where
  v : PE X e t.v
  w : PW X e t.t
/-- what a def's context gives -/
structure En4 (calm : Bool) (A : Around) (N : List Str) (mg : Str → Option Value) : Prop where
  calm : calm = true
  hu : A.units + 64 < cLine
  nd : N.Nodup
  len : mg "len" = none
  abs : mg "abs" = none
  int : mg "int" = none
  list : mg "list" = none
  tuple : mg "tuple" = none
  sorted : mg "sorted" = none
  set : mg "set" = none
  sum : mg "sum" = none
  max : mg "max" = none
  min : mg "min" = none
  all : mg "all" = none
  any : mg "any" = none
  range : mg "range" = none
  enumerate : mg "enumerate" = none
  zip : mg "zip" = none
  isinstance : mg "isinstance" = none
  bool : mg "bool" = none
  str : mg "str" = none
abbrev En (X : Cx) : Prop := En4 X.calm X.A X.N X.mg
/-- a function of the table, to be called -/
structure Fc5 (P : Program) (w : World) (K : PySem.W.Frag) (mg : Str → Option Value) (base : Heap) (k : Nat) (sp : Nat → Sp) (g : Nat) (x : Str) (f : Addr) (fd : FuncData) (ps : List Str) : Prop where
  ok : FnOk P w K mg base CX0 k f fd ps (sp g)
  mg : mg x = some (.ref f)
  kp : PySem.W.keepIn K (.ref f) = true
  b : Binds K fd ps []
abbrev Fc (X : Cx) (k : Nat) (sp : Nat → Sp) (g : Nat) (x : Str) (f : Addr) (fd : FuncData) (ps : List Str) : Prop := Fc5 X.prog X.w X.K X.mg X.base k sp g x f fd ps

section
variable {X : Cx} {sp : Nat → Sp} {a b d e : Expr} {es : List Expr} {ia ib id : IE} {ies : List IE} {pos p : Pos} {x : Str} {j : Nat}
theorem px {t : TE} (h : PE X e t) (he : ∀ whole, isTrue e X.env whole = (do let v ← whole; standAt e.pos; holding [v] (truthy v)) := by intro _; rfl) : PX X e (T2.of X.K t) := ⟨h, pt_truth h he⟩
theorem px_b {t : T2} (h : PB X e t) : PX X e t := ⟨h.v, ⟨fun pins s σ H Q I q => h.w.run _ pins s σ H Q I q⟩⟩
theorem px_var (i : Nat) (hN : X.N[i]? = some x := by rfl) (hv : Vis X.env.scope x := by first | exact Or.inl rfl | exact Or.inr (Or.inl rfl) | exact Or.inr (Or.inr rfl)) (hd : (x == ("__debug__" : Str)) = false := by decide)
    (hcd : (x == ("__classdict__" : Str)) = false := by decide) : PX X (.Name x pos) (tr (cfg X sp) (.var i)) := px (pe_var hN hv hd hcd)
theorem px_int {k : Int} : PX X (.Constant (.int k) j pos) (tr (cfg X sp) (.cint k)) := px pe_int
theorem px_bl {k : Bool} : PX X (.Constant (.bool k) j pos) (tr (cfg X sp) (.cbl k)) := px pe_bl
theorem px_non : PX X (.Constant .none j pos) (tr (cfg X sp) .cnon) := px pe_non
theorem px_str {k : Str} : PX X (.Constant (.str k) j pos) (tr (cfg X sp) (.cstr k)) := px pe_str
theorem px_neg (ha : PX X a (tr (cfg X sp) ia)) : PX X (.UnaryOp .USub a pos) (tr (cfg X sp) (.op1 .neg ia)) := px (pe_un un_neg ha.v)
theorem px_bin {o : Op2} {op : Operator} (ho : OpR X (binaryOp op) (r2 X.K o)) (hc : isCmp o = false) (ha : PX X a (tr (cfg X sp) ia)) (hb : PX X b (tr (cfg X sp) ib)) : PX X (.BinOp a op b pos) (tr (cfg X sp) (.op2 o ia ib)) := by
  have h : PE X (.BinOp a op b pos) (tOp (r2 X.K o) (tr (cfg X sp) ia).v (tr (cfg X sp) ib).v) := pe_op ho ha.v hb.v
  refine ⟨h, ?_⟩
  show PT X _ (if isCmp o = true then _ else tTru X.K (tOp (r2 X.K o) (tr (cfg X sp) ia).v (tr (cfg X sp) ib).v))
  rw [if_neg (by rw [hc]; decide)]
  exact (px h).t
theorem px_add (ha : PX X a (tr (cfg X sp) ia)) (hb : PX X b (tr (cfg X sp) ib)) : PX X (.BinOp a .Add b pos) (tr (cfg X sp) (.op2 .add ia ib)) := px_bin op_addA rfl ha hb
theorem px_subt (ha : PX X a (tr (cfg X sp) ia)) (hb : PX X b (tr (cfg X sp) ib)) : PX X (.BinOp a .Sub b pos) (tr (cfg X sp) (.op2 .sub ia ib)) := px_bin op_sub rfl ha hb
theorem px_mul (ha : PX X a (tr (cfg X sp) ia)) (hb : PX X b (tr (cfg X sp) ib)) : PX X (.BinOp a .Mult b pos) (tr (cfg X sp) (.op2 .mul ia ib)) := px_bin op_mulA rfl ha hb
theorem px_fdiv (ha : PX X a (tr (cfg X sp) ia)) (hb : PX X b (tr (cfg X sp) ib)) : PX X (.BinOp a .FloorDiv b pos) (tr (cfg X sp) (.op2 .fdiv ia ib)) := px_bin op_fdivN rfl ha hb
theorem px_mod (ha : PX X a (tr (cfg X sp) ia)) (hb : PX X b (tr (cfg X sp) ib)) : PX X (.BinOp a .Mod b pos) (tr (cfg X sp) (.op2 .mod ia ib)) := px_bin op_modN rfl ha hb
theorem px_pow (ha : PX X a (tr (cfg X sp) ia)) (hb : PX X b (tr (cfg X sp) ib)) : PX X (.BinOp a .Pow b pos) (tr (cfg X sp) (.op2 .pow ia ib)) := px_bin op_pow rfl ha hb
theorem px_cmp {o : Op2} {op : CmpOp} (ho : OpR X (compareOp op) (r2 X.K o)) (hc : isCmp o = true) (hm : behindInMarks op b = false) (ha : PX X a (tr (cfg X sp) ia)) (hb : PX X b (tr (cfg X sp) ib)) : PX X (.Compare a [op] [b] pos) (tr (cfg X sp) (.op2 o ia ib)) := by
  refine ⟨pe_cmpR ho ha.v hb.v hm, ?_⟩
  show PT X _ (if isCmp o = true then tTest (tOp (r2 X.K o) (tr (cfg X sp) ia).v (tr (cfg X sp) ib).v) else _)
  rw [if_pos hc]
  exact pt_cmpR ho ha.v hb.v hm
theorem px_eq (E : En X) (ha : PX X a (tr (cfg X sp) ia)) (hb : PX X b (tr (cfg X sp) ib)) (hm : behindInMarks .Eq b = false := by rfl) : PX X (.Compare a [.Eq] [b] pos) (tr (cfg X sp) (.op2 .eq ia ib)) := px_cmp (op_eqP E.hu) rfl hm ha hb
theorem px_ne (E : En X) (ha : PX X a (tr (cfg X sp) ia)) (hb : PX X b (tr (cfg X sp) ib)) (hm : behindInMarks .NotEq b = false := by rfl) : PX X (.Compare a [.NotEq] [b] pos) (tr (cfg X sp) (.op2 .ne ia ib)) := px_cmp (op_neP E.hu) rfl hm ha hb
theorem px_lt (ha : PX X a (tr (cfg X sp) ia)) (hb : PX X b (tr (cfg X sp) ib)) (hm : behindInMarks .Lt b = false := by rfl) : PX X (.Compare a [.Lt] [b] pos) (tr (cfg X sp) (.op2 .lt ia ib)) := px_cmp op_lt rfl hm ha hb
theorem px_le (ha : PX X a (tr (cfg X sp) ia)) (hb : PX X b (tr (cfg X sp) ib)) (hm : behindInMarks .LtE b = false := by rfl) : PX X (.Compare a [.LtE] [b] pos) (tr (cfg X sp) (.op2 .le ia ib)) := px_cmp op_le rfl hm ha hb
theorem px_gt (ha : PX X a (tr (cfg X sp) ia)) (hb : PX X b (tr (cfg X sp) ib)) (hm : behindInMarks .Gt b = false := by rfl) : PX X (.Compare a [.Gt] [b] pos) (tr (cfg X sp) (.op2 .gt ia ib)) := px_cmp op_gt rfl hm ha hb
theorem px_ge (ha : PX X a (tr (cfg X sp) ia)) (hb : PX X b (tr (cfg X sp) ib)) (hm : behindInMarks .GtE b = false := by rfl) : PX X (.Compare a [.GtE] [b] pos) (tr (cfg X sp) (.op2 .ge ia ib)) := px_cmp op_ge rfl hm ha hb
theorem px_in (E : En X) (ha : PX X a (tr (cfg X sp) ia)) (hb : PX X b (tr (cfg X sp) ib)) (hm : behindInMarks .In b = false := by rfl) : PX X (.Compare a [.In] [b] pos) (tr (cfg X sp) (.op2 .isin ia ib)) := px_cmp (op_inP E.hu) rfl hm ha hb
theorem px_nin (E : En X) (ha : PX X a (tr (cfg X sp) ia)) (hb : PX X b (tr (cfg X sp) ib)) (hm : behindInMarks .NotIn b = false := by rfl) : PX X (.Compare a [.NotIn] [b] pos) (tr (cfg X sp) (.op2 .notin ia ib)) := px_cmp (op_notInP E.hu) rfl hm ha hb
theorem px_is (ha : PX X a (tr (cfg X sp) ia)) (hb : PX X b (tr (cfg X sp) ib)) (hm : behindInMarks .Is b = false := by rfl) : PX X (.Compare a [.Is] [b] pos) (tr (cfg X sp) (.op2 .isN ia ib)) := px_cmp op_isN' rfl hm ha hb
theorem px_isnot (ha : PX X a (tr (cfg X sp) ia)) (hb : PX X b (tr (cfg X sp) ib)) (hm : behindInMarks .IsNot b = false := by rfl) : PX X (.Compare a [.IsNot] [b] pos) (tr (cfg X sp) (.op2 .notN ia ib)) := px_cmp op_notN' rfl hm ha hb
theorem px_chain {o o' : Op2} {op op' : CmpOp} (ho : OpR X (compareOp op) (r2 X.K o)) (ho' : OpR X (compareOp op') (r2 X.K o')) (hc : isCmp o' = true) (ha : PX X a (tr (cfg X sp) ia)) (hb : PX X b (tr (cfg X sp) ib)) (hd : PX X d (tr (cfg X sp) id)) (hm : lastMarks [op, op'] [b, d] = false := by with_unfolding_all rfl) :
    PX X (.Compare a [op, op'] [b, d] pos) (tr (cfg X sp) (.chain o o' ia ib id)) := by
  refine ⟨pe_chain ho ho' ha.v hb.v hd.v hm, ?_⟩
  show PT X _ (if isCmp o' = true then tTest (tChain (r2 X.K o) (r2 X.K o') (tr (cfg X sp) ia).v (tr (cfg X sp) ib).v (tr (cfg X sp) id).v) else _)
  rw [if_pos hc]
  exact pt_chain ho ho' ha.v hb.v hd.v hm
theorem px_ix (ha : PX X a (tr (cfg X sp) ia)) (hb : PX X b (tr (cfg X sp) ib)) (hs : PlainIx b := by intro _ _; rfl) : PX X (.Subscript a b pos) (tr (cfg X sp) (.op2 .ix ia ib)) := by
  have h : PE X (.Subscript a b pos) (tOp (r2 X.K .ix) (tr (cfg X sp) ia).v (tr (cfg X sp) ib).v) := pe_ix ix_A ha.v hb.v hs
  exact px h
theorem pb_and1 {t : T2} (ha : PX X a t) : PB X (.BoolOp .And [a] pos) t := ⟨pe_one ha.v, pw_and1 ha.t⟩
theorem pb_or1 {t : T2} (ha : PX X a t) : PB X (.BoolOp .Or [a] pos) t := ⟨pe_one ha.v, pw_or1 ha.t⟩
theorem pb_and (ha : PX X a (tr (cfg X sp) ia)) (hb : PB X (.BoolOp .And (b :: es) pos) (tr (cfg X sp) ib)) : PB X (.BoolOp .And (a :: b :: es) pos) (tr (cfg X sp) (.and ia ib)) := ⟨pe_andT ha.v hb.v, pw_and ha.t hb.w⟩
theorem pb_or (ha : PX X a (tr (cfg X sp) ia)) (hb : PB X (.BoolOp .Or (b :: es) pos) (tr (cfg X sp) ib)) : PB X (.BoolOp .Or (a :: b :: es) pos) (tr (cfg X sp) (.or ia ib)) := ⟨pe_orT ha.v hb.v, pw_or ha.t hb.w⟩
theorem px_not (ha : PX X a (tr (cfg X sp) ia)) : PX X (.UnaryOp .Not a pos) (tr (cfg X sp) (.not ia)) := ⟨pe_notT ha.v, pt_not ha.t⟩
theorem pt_ifT {tA ta tb : TT} (hd : PT X d tA) (ha : PT X a ta) (hb : PT X b tb) : PT X (.IfExp d a b pos) (tIfT tA ta tb) := by
  refine ⟨fun pins s σ H Q I h => ?_⟩
  refine PyProof.Rows.isTrue_IfExp (thn (hd.run pins s σ H _ I h) fun c s1 ⟨H1, I1, q1⟩ => ?_)
  cases c with
  | true => exact ha.run pins s1 σ H1 Q I1 q1
  | false => exact hb.run pins s1 σ H1 Q I1 q1
theorem px_ite (hd : PX X d (tr (cfg X sp) id)) (ha : PX X a (tr (cfg X sp) ia)) (hb : PX X b (tr (cfg X sp) ib)) : PX X (.IfExp d a b pos) (tr (cfg X sp) (.ite id ia ib)) := ⟨pe_ifExp hd.t ha.v hb.v, pt_ifT hd.t ha.t hb.t⟩
theorem pas_nil : PA X [] (trA (cfg X sp) []) := pa_nil
theorem pas_cons (ha : PX X e (tr (cfg X sp) ia)) (hr : PA X es (trA (cfg X sp) ies)) (hs : starEach (e :: es) X.env = (false, eval e X.env) :: starEach es X.env := by rfl) : PA X (e :: es) (trA (cfg X sp) (ia :: ies)) := pa_cons ha.v hr hs
theorem px_tup (h : PA X es (trA (cfg X sp) ies)) : PX X (.Tuple es j pos) (tr (cfg X sp) (.tup ies)) := px (pe_tupF h)
theorem px_lst (h : PA X es (trA (cfg X sp) ies)) : PX X (.List es pos) (tr (cfg X sp) (.lst ies)) := px (pe_lst h)
theorem pos_none : PO X none (trO (cfg X sp) none) := po_none
theorem pos_some (h : PX X e (tr (cfg X sp) ia)) : PO X (some e) (trO (cfg X sp) (some ia)) := po_some h.v
theorem px_slc {lo hi : Option Expr} {il ih : Option IE} (ha : PX X a (tr (cfg X sp) ia)) (hl : PO X lo (trO (cfg X sp) il)) (hh : PO X hi (trO (cfg X sp) ih)) : PX X (.Subscript a (.Slice lo hi none p) pos) (tr (cfg X sp) (.slc ia il ih)) := px (pe_slice sl_A ha.v hl hh)
theorem px_rev {k : Nat} {p1 p2 p3 : Pos} (ha : PX X a (tr (cfg X sp) ia)) : PX X (.Subscript a (.Slice none none (some (.UnaryOp .USub (.Constant (.int 1) k p1) p2)) p3) pos) (tr (cfg X sp) (.rev ia)) := px (pe_revL ha.v)

/-! ### built-in functions -/
theorem px_fnB {f : Fn} {idn : String} (hf : trFn (cfg X sp) f (trA (cfg X sp) ies) = tCB (rFn X.K f) (trA (cfg X sp) ies)) (hc : CallR X (.builtin idn) (rFn X.K f)) (hg : Gl X x) (hm : X.mg x = none) (hv : bootBuiltins x = some (.builtin idn)) (ha : PA X (e :: es) (trA (cfg X sp) ies)) (hn : x ≠ "__name__" := by decide) (hdb : (x == ("__debug__" : Str)) = false := by decide)
    (he : starEach (e :: es) X.env = (false, eval e X.env) :: starEach es X.env := by rfl) (hpl : (backTo pos (starEach es X.env)).any (·.1) = false := by rfl) : PX X (.Call (.Name x p) (e :: es) [] pos) (tr (cfg X sp) (.fn f ies)) := by
  have h := pe_callB (pos := pos) (p := p) hc hg hm hv ha hn hdb he hpl
  rw [← hf] at h
  exact px h
theorem px_fnT {f : Fn} {idn : String} (hf : trFn (cfg X sp) f (trA (cfg X sp) ies) = tCB (rFn X.K f) (trA (cfg X sp) ies)) (hc : CallR X (.type idn) (rFn X.K f)) (hg : Gl X x) (hm : X.mg x = none) (hv : bootBuiltins x = some (.type idn)) (ha : PA X (e :: es) (trA (cfg X sp) ies)) (hn : x ≠ "__name__" := by decide) (hdb : (x == ("__debug__" : Str)) = false := by decide)
    (he : starEach (e :: es) X.env = (false, eval e X.env) :: starEach es X.env := by rfl) (hpl : (backTo pos (starEach es X.env)).any (·.1) = false := by rfl) : PX X (.Call (.Name x p) (e :: es) [] pos) (tr (cfg X sp) (.fn f ies)) := by
  have h := pe_callTy (pos := pos) (p := p) hc hg hm hv ha hn hdb he hpl
  rw [← hf] at h
  exact px h
theorem px_len (E : En X) (ha : PX X e (tr (cfg X sp) ia)) (hg : Gl X "len" := by rfl) (he : starEach [e] X.env = (false, eval e X.env) :: starEach [] X.env := by rfl) : PX X (.Call (.Name "len" p) [e] [] pos) (tr (cfg X sp) (.fn .len [ia])) := px_fnB rfl call_lenA hg E.len PySem.boot_len (pas_cons ha pas_nil he) (he := he)
theorem px_abs (E : En X) (ha : PX X e (tr (cfg X sp) ia)) (hg : Gl X "abs" := by rfl) (he : starEach [e] X.env = (false, eval e X.env) :: starEach [] X.env := by rfl) : PX X (.Call (.Name "abs" p) [e] [] pos) (tr (cfg X sp) (.fn .abs [ia])) := px_fnB rfl call_abs hg E.abs PyProof.Rows.boot_abs (pas_cons ha pas_nil he) (he := he)
theorem px_intf (E : En X) (ha : PX X e (tr (cfg X sp) ia)) (hg : Gl X "int" := by rfl) (he : starEach [e] X.env = (false, eval e X.env) :: starEach [] X.env := by rfl) : PX X (.Call (.Name "int" p) [e] [] pos) (tr (cfg X sp) (.fn .int [ia])) := px_fnT rfl call_int1 hg E.int PyProof.Rows.boot_int (pas_cons ha pas_nil he) (he := he)
theorem px_list (E : En X) (ha : PX X e (tr (cfg X sp) ia)) (hg : Gl X "list" := by rfl) (he : starEach [e] X.env = (false, eval e X.env) :: starEach [] X.env := by rfl) : PX X (.Call (.Name "list" p) [e] [] pos) (tr (cfg X sp) (.fn .list [ia])) := px_fnT rfl call_lstA hg E.list PyProof.Rows.boot_list (pas_cons ha pas_nil he) (he := he)
theorem px_tuple (E : En X) (ha : PX X e (tr (cfg X sp) ia)) (hg : Gl X "tuple" := by rfl) (he : starEach [e] X.env = (false, eval e X.env) :: starEach [] X.env := by rfl) : PX X (.Call (.Name "tuple" p) [e] [] pos) (tr (cfg X sp) (.fn .tuple [ia])) := px_fnT rfl call_tupA hg E.tuple PyProof.Rows.boot_tuple (pas_cons ha pas_nil he) (he := he)
theorem px_sorted (E : En X) (ha : PX X e (tr (cfg X sp) ia)) (hg : Gl X "sorted" := by rfl) (he : starEach [e] X.env = (false, eval e X.env) :: starEach [] X.env := by rfl) : PX X (.Call (.Name "sorted" p) [e] [] pos) (tr (cfg X sp) (.fn .sorted [ia])) := px_fnB rfl (cr_sortD E.hu) hg E.sorted PyProof.Rows.boot_sorted (pas_cons ha pas_nil he) (he := he)
theorem px_sum (E : En X) (ha : PX X e (tr (cfg X sp) ia)) (hg : Gl X "sum" := by rfl) (he : starEach [e] X.env = (false, eval e X.env) :: starEach [] X.env := by rfl) : PX X (.Call (.Name "sum" p) [e] [] pos) (tr (cfg X sp) (.fn .sum [ia])) := px_fnB rfl (cr_sum E.calm) hg E.sum PyProof.Rows.boot_sum (pas_cons ha pas_nil he) (he := he)
theorem px_max (E : En X) (ha : PX X e (tr (cfg X sp) ia)) (hg : Gl X "max" := by rfl) (he : starEach [e] X.env = (false, eval e X.env) :: starEach [] X.env := by rfl) : PX X (.Call (.Name "max" p) [e] [] pos) (tr (cfg X sp) (.fn .max [ia])) := px_fnB rfl (cr_max E.calm) hg E.max PyProof.Rows.boot_max (pas_cons ha pas_nil he) (he := he)
theorem px_min (E : En X) (ha : PX X e (tr (cfg X sp) ia)) (hg : Gl X "min" := by rfl) (he : starEach [e] X.env = (false, eval e X.env) :: starEach [] X.env := by rfl) : PX X (.Call (.Name "min" p) [e] [] pos) (tr (cfg X sp) (.fn .min [ia])) := px_fnB rfl (cr_min E.calm) hg E.min PyProof.Rows.boot_min (pas_cons ha pas_nil he) (he := he)
theorem px_all (E : En X) (ha : PX X e (tr (cfg X sp) ia)) (hg : Gl X "all" := by rfl) (he : starEach [e] X.env = (false, eval e X.env) :: starEach [] X.env := by rfl) : PX X (.Call (.Name "all" p) [e] [] pos) (tr (cfg X sp) (.fn .all [ia])) := px_fnB rfl (cr_all E.calm) hg E.all PyProof.Rows.boot_all (pas_cons ha pas_nil he) (he := he)
theorem px_any (E : En X) (ha : PX X e (tr (cfg X sp) ia)) (hg : Gl X "any" := by rfl) (he : starEach [e] X.env = (false, eval e X.env) :: starEach [] X.env := by rfl) : PX X (.Call (.Name "any" p) [e] [] pos) (tr (cfg X sp) (.fn .any [ia])) := px_fnB rfl (cr_any E.calm) hg E.any PyProof.Rows.boot_any (pas_cons ha pas_nil he) (he := he)
theorem px_max2 (E : En X) (ha : PX X a (tr (cfg X sp) ia)) (hb : PX X b (tr (cfg X sp) ib)) (hg : Gl X "max" := by rfl) (he : starEach [a, b] X.env = (false, eval a X.env) :: starEach [b] X.env := by rfl) (he2 : starEach [b] X.env = (false, eval b X.env) :: starEach [] X.env := by rfl) (hpl : (backTo pos (starEach [b] X.env)).any (·.1) = false := by rfl) :
    PX X (.Call (.Name "max" p) [a, b] [] pos) (tr (cfg X sp) (.fn .max2 [ia, ib])) := px_fnB rfl (call_max2 E.calm) hg E.max PyProof.Rows.boot_max (pas_cons ha (pas_cons hb pas_nil he2) he) (he := he) (hpl := hpl)
theorem px_min2 (E : En X) (ha : PX X a (tr (cfg X sp) ia)) (hb : PX X b (tr (cfg X sp) ib)) (hg : Gl X "min" := by rfl) (he : starEach [a, b] X.env = (false, eval a X.env) :: starEach [b] X.env := by rfl) (he2 : starEach [b] X.env = (false, eval b X.env) :: starEach [] X.env := by rfl) (hpl : (backTo pos (starEach [b] X.env)).any (·.1) = false := by rfl) :
    PX X (.Call (.Name "min" p) [a, b] [] pos) (tr (cfg X sp) (.fn .min2 [ia, ib])) := px_fnB rfl (call_min2 E.calm) hg E.min PyProof.Rows.boot_min (pas_cons ha (pas_cons hb pas_nil he2) he) (he := he) (hpl := hpl)
end
end PD
end

section
set_option Elab.async false
set_option linter.all false
set_option maxRecDepth 100000
set_option maxHeartbeats 1000000
/-! PD: the rules of the walk by IR terms: calls, walks, comprehensions, statements. -/
namespace PD
open PySem PySem.Spec PyProof.Rows L2

section
variable {X : Cx} {sp : Nat → Sp} {a b d e : Expr} {es : List Expr} {ia ib id : IE} {ies : List IE} {pos p p2 p3 : Pos} {x : Str} {j : Nat}
/-- sorted(set(e)) -/
theorem px_sset (E : En X) (ha : PX X e (tr (cfg X sp) ia)) (hg : Gl X "sorted" := by rfl) (hg2 : Gl X "set" := by rfl) (he : starEach [e] X.env = (false, eval e X.env) :: starEach [] X.env := by rfl)
    (he2 : starEach [Expr.Call (.Name "set" p2) [e] [] p3] X.env = (false, eval (Expr.Call (.Name "set" p2) [e] [] p3) X.env) :: starEach [] X.env := by rfl) : PX X (.Call (.Name "sorted" p) [.Call (.Name "set" p2) [e] [] p3] [] pos) (tr (cfg X sp) (.fn .sset [ia])) := by
  have h1 : PE X (.Call (.Name "set" p2) [e] [] p3) (tCB (rSetI X.K X.w) (trA (cfg X sp) [ia])) := pe_callTy (cr_setI E.calm) hg2 E.set PyProof.Rows.boot_set (pas_cons ha pas_nil he) (he := he)
  have h2 : PE X (.Call (.Name "sorted" p) [.Call (.Name "set" p2) [e] [] p3] [] pos) (tCB (rSortedSet X.w) (tCons (tCB (rSetI X.K X.w) (trA (cfg X sp) [ia])) tNil)) := pe_callB (cr_sortedSet E.calm) hg E.sorted PyProof.Rows.boot_sorted (pa_cons h1 pa_nil he2) (he := he2)
  exact px h2
theorem px_call {k g : Nat} {f : Addr} {fd : FuncData} {ps : List Str} {P : Program} {w : World} {K : PySem.W.Frag} {mg : Str → Option Value} {base : Heap} {A : Around} (F0 : Fc5 P w K mg base k sp g x f fd ps) (hr0 : Room k A) (ha : PA X (e :: es) (trA (cfg X sp) ies)) (hF : Fc5 P w K mg base k sp g x f fd ps = Fc X k sp g x f fd ps := by rfl) (hA : A = X.A := by rfl) (hg : Gl X x := by rfl) (hdb : (x == ("__debug__" : Str)) = false := by decide)
    (he : starEach (e :: es) X.env = (false, eval e X.env) :: starEach es X.env := by rfl) (hpl : (backTo pos (starEach es X.env)).any (·.1) = false := by rfl) : PX X (.Call (.Name x p) (e :: es) [] pos) (tr (cfg X sp) (.call g ies)) :=
  have F : Fc X k sp g x f fd ps := hF ▸ F0
  have hr : Room k X.A := hA ▸ hr0
  px (pe_call F.ok hr hg F.mg F.kp F.b .nil pass0 ha hdb he hpl)
theorem px_idxT (E : En X) (ha : PX X a (tr (cfg X sp) ia)) (hb : PX X b (tr (cfg X sp) ib)) (hbase : attributeBase a "index" X.env (eval a X.env) = eval a X.env := by rfl)
    (hfew : ((backTo pos (starEach [b] X.env)).all (fun x => !x.1) && (backToKw pos (keywordEach [] X.env)).all (fun x => x.1.isSome)
      && decide (([b] : List Expr).length + ([] : List Keyword).length + (if ([] : List Keyword).isEmpty then 0 else 1) < 30)) = true := by rfl)
    (hline : (p.endLine == pos.line) = true := by rfl) (hs : starEach [b] X.env = (false, eval b X.env) :: starEach [] X.env := by rfl) : PX X (.Call (.Attribute a "index" p) [b] [] pos) (tr (cfg X sp) (.idx true ia ib)) :=
  px (pe_bmT PySem.F.plainAttrs_tuple PySem.F.slot_tuple_index PySem.F.type_tuple_index (mt_idxT E.hu) ha.v (pa_cons hb.v pa_nil hs) hbase hfew hline hs)
theorem px_idxL (E : En X) (ha : PX X a (tr (cfg X sp) ia)) (hb : PX X b (tr (cfg X sp) ib)) (hbase : attributeBase a "index" X.env (eval a X.env) = eval a X.env := by rfl)
    (hfew : ((backTo pos (starEach [b] X.env)).all (fun x => !x.1) && (backToKw pos (keywordEach [] X.env)).all (fun x => x.1.isSome)
      && decide (([b] : List Expr).length + ([] : List Keyword).length + (if ([] : List Keyword).isEmpty then 0 else 1) < 30)) = true := by rfl)
    (hline : (p.endLine == pos.line) = true := by rfl) (hs : starEach [b] X.env = (false, eval b X.env) :: starEach [] X.env := by rfl) : PX X (.Call (.Attribute a "index" p) [b] [] pos) (tr (cfg X sp) (.idx false ia ib)) :=
  px (pe_bm PySem.F.plainAttrs_list PySem.F.slot_list_index PySem.F.type_list_index (mt_idxL E.hu) ha.v (pa_cons hb.v pa_nil hs) hbase hfew hline hs)
/-- a built-in type's name -/
theorem pe_tyN {T : String} (hg : Gl X x) (hm : X.mg x = none) (hv : bootBuiltins x = some (.type T)) (hn : x ≠ "__name__" := by decide) (hdb : (x == ("__debug__" : Str)) = false := by decide) : PE X (.Name x pos) (tC (.ty T)) :=
  ⟨fun pins s σ H Q I h => ld_blt I hg hm hv ⟨.ty T, H, I, rfl, h⟩ hn hdb⟩
theorem px_isi {y : Ty} (E : En X) (hv : bootBuiltins x = some (.type (tyName y))) (ha : PX X a (tr (cfg X sp) ia)) (hm : X.mg x = none) (hg : Gl X "isinstance" := by rfl) (hg2 : Gl X x := by rfl) (hn : x ≠ "__name__" := by decide) (hdb : (x == ("__debug__" : Str)) = false := by decide)
    (he : starEach [a, .Name x p2] X.env = (false, eval a X.env) :: starEach [.Name x p2] X.env := by rfl) (he2 : starEach [Expr.Name x p2] X.env = (false, eval (.Name x p2) X.env) :: starEach [] X.env := by rfl) (hpl : (backTo pos (starEach [Expr.Name x p2] X.env)).any (·.1) = false := by rfl) :
    PX X (.Call (.Name "isinstance" p) [a, .Name x p2] [] pos) (tr (cfg X sp) (.isi ia y)) :=
  px (pe_callB call_isi hg E.isinstance PyProof.Rows.boot_isinstance (pa_cons ha.v (pa_cons (pe_tyN hg2 hm hv hn hdb) pa_nil he2) he) (he := he) (hpl := hpl))
theorem ptys_nil : PA X [] (trTys []) := pa_nil
theorem ptys_cons {y : Ty} {ys : List Ty} (hv : bootBuiltins x = some (.type (tyName y))) (hm : X.mg x = none) (h : PA X es (trTys ys)) (hg2 : Gl X x := by rfl) (hn : x ≠ "__name__" := by decide) (hdb : (x == ("__debug__" : Str)) = false := by decide)
    (hs : starEach (.Name x p2 :: es) X.env = (false, eval (.Name x p2) X.env) :: starEach es X.env := by rfl) : PA X (.Name x p2 :: es) (trTys (y :: ys)) := pa_cons (pe_tyN hg2 hm hv hn hdb) h hs
theorem px_isiT {ys : List Ty} (E : En X) (ha : PX X a (tr (cfg X sp) ia)) (ht : PA X es (trTys ys)) (hg : Gl X "isinstance" := by rfl)
    (he : starEach [a, .Tuple es j p2] X.env = (false, eval a X.env) :: starEach [.Tuple es j p2] X.env := by rfl) (he2 : starEach [Expr.Tuple es j p2] X.env = (false, eval (.Tuple es j p2) X.env) :: starEach [] X.env := by rfl) (hpl : (backTo pos (starEach [Expr.Tuple es j p2] X.env)).any (·.1) = false := by rfl) :
    PX X (.Call (.Name "isinstance" p) [a, .Tuple es j p2] [] pos) (tr (cfg X sp) (.isiT ia ys)) :=
  px (pe_callB call_isiT hg E.isinstance PyProof.Rows.boot_isinstance (pa_cons ha.v (pa_cons (pe_tup ht) pa_nil he2) he) (he := he) (hpl := hpl))
theorem px_lrng1 (E : En X) (ha : PX X a (tr (cfg X sp) ia)) (h : PRg X e (tRg1 (tr (cfg X sp) ia).v)) (hg : Gl X "list" := by rfl) (na : starEach [e] X.env = (false, eval e X.env) :: starEach [] X.env := by rfl) : PX X (.Call (.Name "list" p) [e] [] pos) (tr (cfg X sp) (.lrng1 ia)) := px (pe_listRg E.calm hg E.list h na)
theorem px_lrng2 (E : En X) (h : PRg X e (tRg2 (tr (cfg X sp) ia).v (tr (cfg X sp) ib).v)) (hg : Gl X "list" := by rfl) (na : starEach [e] X.env = (false, eval e X.env) :: starEach [] X.env := by rfl) : PX X (.Call (.Name "list" p) [e] [] pos) (tr (cfg X sp) (.lrng2 ia ib)) := px (pe_listRg E.calm hg E.list h na)

theorem boot_bool : bootBuiltins "bool" = some (.type "bool") := by decide +kernel
theorem boot_str : bootBuiltins "str" = some (.type "str") := by decide +kernel
/-! ### walks -/
variable {tg : Expr} {is : List IS} {it : Tg} {src src1 : Src} {iter : Expr}
theorem pis_seq (ha : PX X a (tr (cfg X sp) ia)) : PI X tg a (trI (cfg X sp) (.seq ia)) := pi_seqA ha.v
theorem pis_rng1 (E : En X) (ha : PX X a (tr (cfg X sp) ia)) (hg : Gl X "range" := by rfl) (hs : starEach [a] X.env = [(false, eval a X.env)] := by rfl) : PI X tg (.Call (.Name "range" p) [a] [] pos) (trI (cfg X sp) (.rng1 ia)) := pi_range1 hg E.range (pa_cons ha.v pa_nil hs) hs
theorem pis_rng2 (E : En X) (ha : PX X a (tr (cfg X sp) ia)) (hb : PX X b (tr (cfg X sp) ib)) (hg : Gl X "range" := by rfl) (hs : starEach [a, b] X.env = [(false, eval a X.env), (false, eval b X.env)] := by rfl) (hs2 : starEach [b] X.env = [(false, eval b X.env)] := by rfl) :
    PI X tg (.Call (.Name "range" p) [a, b] [] pos) (trI (cfg X sp) (.rng2 ia ib)) := pi_range2 hg E.range (pa_cons ha.v (pa_cons hb.v pa_nil hs2) (by rw [hs, hs2])) hs hs2
theorem pis_rng3 (E : En X) (ha : PX X a (tr (cfg X sp) ia)) (hb : PX X b (tr (cfg X sp) ib)) (hd : PX X d (tr (cfg X sp) id)) (hg : Gl X "range" := by rfl) (hs : starEach [a, b, d] X.env = (false, eval a X.env) :: starEach [b, d] X.env := by rfl) (hs2 : starEach [b, d] X.env = (false, eval b X.env) :: starEach [d] X.env := by rfl) (hs3 : starEach [d] X.env = (false, eval d X.env) :: starEach [] X.env := by rfl) (hpl : (backTo pos (starEach [b, d] X.env)).any (·.1) = false := by rfl) :
    PI X tg (.Call (.Name "range" p) [a, b, d] [] pos) (trI (cfg X sp) (.rng3 ia ib id)) := pi_range3 hg E.range (pa_cons ha.v (pa_cons hb.v (pa_cons hd.v pa_nil hs3) hs2) hs) hs hpl
theorem pis_enum {elts : List Expr} {kk : Nat} {tpos : Pos} (E : En X) (ha : PX X a (tr (cfg X sp) ia)) (hg : Gl X "enumerate" := by rfl) (hs : starEach [a] X.env = [(false, eval a X.env)] := by rfl) : PI X (.Tuple elts kk tpos) (.Call (.Name "enumerate" p) [a] [] pos) (trI (cfg X sp) (.enum ia)) := pi_enumA hg E.enumerate (pa_cons ha.v pa_nil hs) hs
theorem pis_zip {elts : List Expr} {kk : Nat} {tpos : Pos} (E : En X) (ha : PX X a (tr (cfg X sp) ia)) (hb : PX X b (tr (cfg X sp) ib)) (hg : Gl X "zip" := by rfl) (hs : starEach [a, b] X.env = (false, eval a X.env) :: starEach [b] X.env := by rfl) (hs2 : starEach [b] X.env = (false, eval b X.env) :: starEach [] X.env := by rfl)
    (hpl : (backTo pos (starEach [b] X.env)).any (·.1) = false := by rfl) : PI X (.Tuple elts kk tpos) (.Call (.Name "zip" p) [a, b] [] pos) (trI (cfg X sp) (.zip ia ib)) := RZ.pi_zipA hg E.zip (pa_cons ha.v (pa_cons hb.v pa_nil hs2) hs) hs hpl
/-- targets -/
theorem pgt_name (E : En X) (i : Nat) (hi : X.N[i]? = some x := by rfl) (hx : Loc X.env.scope x := by first | exact Or.inl rfl | exact Or.inr rfl) (hf : X.fn x = true ∨ X.env.scope.names.lookup x = some .local := by first | exact .inl rfl | exact .inr rfl) : PG X (.Name x pos) (trTg X.K (.name i)) := pg_name E.nd hi hx hf
theorem pgs_n (E : En X) (i : Nat) {is : List Nat} (h : PGs X es (gAll is)) (hi : X.N[i]? = some x := by rfl) (hx : Loc X.env.scope x := by first | exact Or.inl rfl | exact Or.inr rfl) (hf : X.fn x = true ∨ X.env.scope.names.lookup x = some .local := by first | exact .inl rfl | exact .inr rfl)
    (hs : (assignEach (.Name x p :: es) X.env).map (·.2) = assign (.Name x p) X.env :: (assignEach es X.env).map (·.2) := by rfl) : PGs X (.Name x p :: es) (gAll (i :: is)) := pgs_cons (pg_name E.nd hi hx hf) h hs
theorem pgt_tup (E : En X) {is : List Nat} (h : PGs X es (gAll is)) (hn : (assignEach es X.env).length = is.length := by rfl) (hst : (assignEach es X.env).findIdx? (·.1) = none := by rfl) : PG X (.Tuple es j pos) (trTg X.K (.tup is)) := pg_tup E.calm h hn hst
/-- conditions -/
theorem pcs_none : PTs X [] (trC (cfg X sp) none) := pts_nil
theorem pcs_one (h : PX X a (tr (cfg X sp) ia)) : PTs X [a] (trC (cfg X sp) (some ia)) := pts_one h.t

/-! ### comprehensions -/
variable {elt tg1 iter1 : Expr} {ifs ifs1 : List Expr} {scope : Scope} {own : List (Str × Nat)} {it1 : Tg} {ic ic1 : Option IE} {ie : IE} {vs1 : List Nat}
theorem px_lc (own : List (Str × Nat)) (E : En X) (hi : PI X tg iter (trI (cfg X sp) src)) (ok : BlkOk X.N X.env.scope scope own)
    (h : ∀ (s : Shared) (H : Hp) (C : Addr) (cl : List (Str × Addr)) (fp : List Addr), En (X.blk s H scope (compEnvC scope cl C X.env) fp) → PG (X.blk s H scope (compEnvC scope cl C X.env) fp) tg (trTg X.K it) ∧ PTs (X.blk s H scope (compEnvC scope cl C X.env) fp) ifs (trC (cfg X sp) ic) ∧ PX (X.blk s H scope (compEnvC scope cl C X.env) fp) elt (tr (cfg X sp) ie))
    (hs : ∀ x, foldedSetIterable iter X.env x = pure x := by intro _; rfl) : PX X (.ListComp elt [⟨tg, iter, ifs, 0⟩] scope pos) (tr (cfg X sp) (.comp ie it src ic (own.map (·.2)))) :=
  px (pe_lc E.calm E.nd hi ok (fun s H C cl fp => (h s H C cl fp E).1) (fun s H C cl fp => (h s H C cl fp E).2.1) (fun s H C cl fp => (h s H C cl fp E).2.2.v) hs)
theorem px_lc2 (own : List (Str × Nat)) (E : En X) (hi : PI X tg iter (trI (cfg X sp) src)) (ok : BlkOk X.N X.env.scope scope own) (hv : ∀ i ∈ vs1, i ∈ own.map (·.2))
    (h : ∀ (s : Shared) (H : Hp) (C : Addr) (cl : List (Str × Addr)) (fp : List Addr), En (X.blk s H scope (compEnvC scope cl C X.env) fp) → PG (X.blk s H scope (compEnvC scope cl C X.env) fp) tg (trTg X.K it) ∧ PTs (X.blk s H scope (compEnvC scope cl C X.env) fp) ifs (trC (cfg X sp) ic) ∧
      PI (X.blk s H scope (compEnvC scope cl C X.env) fp) tg1 iter1 (trI (cfg X sp) src1) ∧ PG (X.blk s H scope (compEnvC scope cl C X.env) fp) tg1 (trTg X.K it1) ∧ PTs (X.blk s H scope (compEnvC scope cl C X.env) fp) ifs1 (trC (cfg X sp) ic1) ∧ PX (X.blk s H scope (compEnvC scope cl C X.env) fp) elt (tr (cfg X sp) ie))
    (hs : ∀ x, foldedSetIterable iter X.env x = pure x := by intro _; rfl) (hs1 : ∀ env x, foldedSetIterable iter1 env x = pure x := by intro _ _; rfl) :
    PX X (.ListComp elt [⟨tg, iter, ifs, 0⟩, ⟨tg1, iter1, ifs1, 0⟩] scope pos) (tr (cfg X sp) (.comp2 ie it src ic it1 src1 ic1 (own.map (·.2)) vs1)) :=
  px (pe_lc2 E.calm E.nd hi ok hv (fun s H C cl fp => (h s H C cl fp E).1) (fun s H C cl fp => (h s H C cl fp E).2.1) (fun s H C cl fp => (h s H C cl fp E).2.2.1) (fun s H C cl fp => (h s H C cl fp E).2.2.2.1) (fun s H C cl fp => (h s H C cl fp E).2.2.2.2.1) (fun s H C cl fp => (h s H C cl fp E).2.2.2.2.2.v) hs hs1)

/-! ### statements -/
variable {st : Stmt} {sts body : List Stmt} {s0 : IS} {ss : List IS} {spos : Pos} {y : Str} {py : Pos}
theorem qs_nil : PSs X [] (trSs (cfg X sp) []) := pss_nil
theorem qs_cons (h : PS X st (trS (cfg X sp) s0)) (h2 : PSs X sts (trSs (cfg X sp) ss)) : PSs X (st :: sts) (trSs (cfg X sp) (s0 :: ss)) := pss_cons h h2
theorem q_set (E : En X) (i : Nat) (ha : PX X a (tr (cfg X sp) ia)) (hi : X.N[i]? = some y := by rfl) (hx : Loc X.env.scope y := by first | exact Or.inl rfl | exact Or.inr rfl) (hs : swapsWith a (some (.Name y py)) spos.line X.env = pure false := by rfl) (hf : X.fn y = true ∨ X.env.scope.names.lookup y = some .local := by first | exact .inl rfl | exact .inr rfl) :
    PS X (.Assign [.Name y py] a spos) (trS (cfg X sp) (.asg i ia)) := ps_set E.nd hi hx ha.v hs hf
/-- y = [..] on one line -/
theorem q_setLc (own : List (Str × Nat)) (E : En X) (i : Nat) (hi : PI X tg iter (trI (cfg X sp) src)) (ok : BlkOk X.N X.env.scope scope own) (hsw : swapsWith (.ListComp elt [⟨tg, iter, ifs, 0⟩] scope pos) (some (.Name y py)) spos.line X.env = pure true)
    (h : ∀ (s : Shared) (H : Hp) (C : Addr) (cl : List (Str × Addr)) (fp : List Addr), En (X.blk s H scope (compEnvC scope cl C X.env) fp) → PG (X.blk s H scope (compEnvC scope cl C X.env) fp) tg (trTg X.K it) ∧ PTs (X.blk s H scope (compEnvC scope cl C X.env) fp) ifs (trC (cfg X sp) ic) ∧ PX (X.blk s H scope (compEnvC scope cl C X.env) fp) elt (tr (cfg X sp) ie))
    (hy : X.N[i]? = some y := by rfl) (hyl : X.env.scope.names.lookup y = some .local := by rfl) (hs : ∀ x, foldedSetIterable iter X.env x = pure x := by intro _; rfl) : PS X (.Assign [.Name y py] (.ListComp elt [⟨tg, iter, ifs, 0⟩] scope pos) spos) (trS (cfg X sp) (.asg i (.comp ie it src ic (own.map (·.2))))) :=
  ps_setLc E.calm E.nd hy hyl hsw hi ok (fun s H C cl fp => (h s H C cl fp E).1) (fun s H C cl fp => (h s H C cl fp E).2.1) (fun s H C cl fp => (h s H C cl fp E).2.2.v) hs
theorem q_setLc2 (own : List (Str × Nat)) (E : En X) (i : Nat) (hi : PI X tg iter (trI (cfg X sp) src)) (ok : BlkOk X.N X.env.scope scope own) (hsw : swapsWith (.ListComp elt [⟨tg, iter, ifs, 0⟩, ⟨tg1, iter1, ifs1, 0⟩] scope pos) (some (.Name y py)) spos.line X.env = pure true) (hv : ∀ i ∈ vs1, i ∈ own.map (·.2))
    (h : ∀ (s : Shared) (H : Hp) (C : Addr) (cl : List (Str × Addr)) (fp : List Addr), En (X.blk s H scope (compEnvC scope cl C X.env) fp) → PG (X.blk s H scope (compEnvC scope cl C X.env) fp) tg (trTg X.K it) ∧ PTs (X.blk s H scope (compEnvC scope cl C X.env) fp) ifs (trC (cfg X sp) ic) ∧
      PI (X.blk s H scope (compEnvC scope cl C X.env) fp) tg1 iter1 (trI (cfg X sp) src1) ∧ PG (X.blk s H scope (compEnvC scope cl C X.env) fp) tg1 (trTg X.K it1) ∧ PTs (X.blk s H scope (compEnvC scope cl C X.env) fp) ifs1 (trC (cfg X sp) ic1) ∧ PX (X.blk s H scope (compEnvC scope cl C X.env) fp) elt (tr (cfg X sp) ie))
    (hy : X.N[i]? = some y := by rfl) (hyl : X.env.scope.names.lookup y = some .local := by rfl) (hs : ∀ x, foldedSetIterable iter X.env x = pure x := by intro _; rfl) (hs1 : ∀ env x, foldedSetIterable iter1 env x = pure x := by intro _ _; rfl) :
    PS X (.Assign [.Name y py] (.ListComp elt [⟨tg, iter, ifs, 0⟩, ⟨tg1, iter1, ifs1, 0⟩] scope pos) spos) (trS (cfg X sp) (.asg i (.comp2 ie it src ic it1 src1 ic1 (own.map (·.2)) vs1))) :=
  ps_setLc2 E.calm E.nd hy hyl hsw hi ok hv (fun s H C cl fp => (h s H C cl fp E).1) (fun s H C cl fp => (h s H C cl fp E).2.1) (fun s H C cl fp => (h s H C cl fp E).2.2.1) (fun s H C cl fp => (h s H C cl fp E).2.2.2.1) (fun s H C cl fp => (h s H C cl fp E).2.2.2.2.1) (fun s H C cl fp => (h s H C cl fp E).2.2.2.2.2.v) hs hs1
theorem PS.imp {t u : TS} (h : PS X st t) (k : ∀ D σ H, u D σ H → t D σ H) : PS X st u := ⟨fun pins s σ H D I q => h.run pins s σ H D I (k D σ H q)⟩
theorem two_of {vs : List V} (h : vs.length = 2) : ∃ v w, vs = [v, w] := by
  match vs, h with
  | [v, w], _ => exact ⟨v, w, rfl⟩
theorem three_of {vs : List V} (h : vs.length = 3) : ∃ u v w, vs = [u, v, w] := by
  match vs, h with
  | [u, v, w], _ => exact ⟨u, v, w, rfl⟩
theorem PA.keep {t : TA} (h : PA X es t) (P : List V → Hp → Prop) : PA X es (fun σ H Q => t σ H fun vs H1 => P vs H1 ∧ (P vs H1 → Q vs H1)) :=
  ⟨fun pos pins s σ H Q I q => thn (h.run pos pins s σ H _ I q) fun us s1 ⟨vs, H1, I1, r1, q1⟩ => ⟨vs, H1, I1, r1, q1.2 q1.1⟩⟩
theorem keep_eq {P Q : List V → Hp → Prop} (h : ∀ vs H, P vs H → Q vs H) : (fun vs H => P vs H ∧ (P vs H → Q vs H)) = P := by
  funext vs H
  exact propext ⟨fun z => z.1, fun z => ⟨z, h vs H⟩⟩
/-- a, b = x, y, both plain local names -/
theorem q_par {j2 k2 : Nat} {pt2 px' py' pt : Pos} {a b : Expr} {x y : Str} (E : En X) (i j : Nat) (hij : i ≠ j) (ha : PA X [a, b] (trA (cfg X sp) ies))
    (hw : swappedStores [.Tuple [.Name x px', .Name y py'] j2 pt] (.Tuple [a, b] k2 pt2) X.env = pure (some [x, y])) (hi : X.N[i]? = some x := by rfl) (hj : X.N[j]? = some y := by rfl) (hx : X.env.scope.names.lookup x = some .local := by rfl) (hy : X.env.scope.names.lookup y = some .local := by rfl)
    (hs : swapsWithSole [.Tuple [.Name x px', .Name y py'] j2 pt] (.Tuple [a, b] k2 pt2) spos.line X.env = pure false := by rfl) :
    PS X (.Assign [.Tuple [.Name x px', .Name y py'] j2 pt] (.Tuple [a, b] k2 pt2) spos) (trS (cfg X sp) (.pars true [i, j] ies)) := by
  refine ⟨fun pins s σ H D I q => ?_⟩
  have q : trA (cfg X sp) ies σ H fun vs H1 => vs.length = 2 ∧ D.nx (stAllV [i, j] vs σ) H1 := q
  refine (ps_par E.calm E.nd hi hj hij hx hy (PA.keep ha fun vs H1 => vs.length = 2 ∧ D.nx (stAllV [i, j] vs σ) H1) hw hs).run pins s σ H D I ?_
  show trA (cfg X sp) ies σ H (fun vs H1 => (vs.length = 2 ∧ D.nx (stAllV [i, j] vs σ) H1) ∧ ((vs.length = 2 ∧ D.nx (stAllV [i, j] vs σ) H1) → ∃ v w, vs = [v, w] ∧ D.nx ((σ.set i (some v)).set j (some w)) H1))
  rw [keep_eq (P := fun vs H1 => vs.length = 2 ∧ D.nx (stAllV [i, j] vs σ) H1) (Q := fun vs H1 => ∃ v w, vs = [v, w] ∧ D.nx ((σ.set i (some v)).set j (some w)) H1) fun vs H1 ⟨h1, h2⟩ => ?_]
  · exact q
  · obtain ⟨v, w, rfl⟩ := two_of h1
    exact ⟨v, w, rfl, h2⟩
theorem q_par3 {j2 k2 : Nat} {pt2 px' py' pz' pt : Pos} {a b d : Expr} {x y z : Str} (E : En X) (i j l : Nat) (hij : i ≠ j) (hil : i ≠ l) (hjl : j ≠ l) (ha : PA X [a, b, d] (trA (cfg X sp) ies))
    (hw : swappedStores [.Tuple [.Name x px', .Name y py', .Name z pz'] j2 pt] (.Tuple [a, b, d] k2 pt2) X.env = pure (some [x, y, z])) (hi : X.N[i]? = some x := by rfl) (hj : X.N[j]? = some y := by rfl) (hl : X.N[l]? = some z := by rfl)
    (hx : X.env.scope.names.lookup x = some .local := by rfl) (hy : X.env.scope.names.lookup y = some .local := by rfl) (hz : X.env.scope.names.lookup z = some .local := by rfl)
    (hs : swapsWithSole [.Tuple [.Name x px', .Name y py', .Name z pz'] j2 pt] (.Tuple [a, b, d] k2 pt2) spos.line X.env = pure false := by rfl) :
    PS X (.Assign [.Tuple [.Name x px', .Name y py', .Name z pz'] j2 pt] (.Tuple [a, b, d] k2 pt2) spos) (trS (cfg X sp) (.pars true [i, j, l] ies)) := by
  refine ⟨fun pins s σ H D I q => ?_⟩
  have q : trA (cfg X sp) ies σ H fun vs H1 => vs.length = 3 ∧ D.nx (stAllV [i, j, l] vs σ) H1 := q
  refine (ps_par3 E.calm E.nd hi hj hl hij hil hjl hx hy hz (PA.keep ha fun vs H1 => vs.length = 3 ∧ D.nx (stAllV [i, j, l] vs σ) H1) hw hs).run pins s σ H D I ?_
  show trA (cfg X sp) ies σ H (fun vs H1 => (vs.length = 3 ∧ D.nx (stAllV [i, j, l] vs σ) H1) ∧ ((vs.length = 3 ∧ D.nx (stAllV [i, j, l] vs σ) H1) → ∃ u v w, vs = [u, v, w] ∧ D.nx (((σ.set i (some u)).set j (some v)).set l (some w)) H1))
  rw [keep_eq (P := fun vs H1 => vs.length = 3 ∧ D.nx (stAllV [i, j, l] vs σ) H1) (Q := fun vs H1 => ∃ u v w, vs = [u, v, w] ∧ D.nx (((σ.set i (some u)).set j (some v)).set l (some w)) H1) fun vs H1 ⟨h1, h2⟩ => ?_]
  · exact q
  · obtain ⟨u, v, w, rfl⟩ := three_of h1
    exact ⟨u, v, w, rfl, h2⟩
theorem gAll_run : ∀ (is : List Nat) (vs : List V) (σ : L2.St) (H : Hp) (Q : L2.St → Hp → Prop), vs.length = is.length → Q (stAllV is vs σ) H → gAll is vs σ H Q
  | [], [], σ, H, Q, _, q => ⟨rfl, q⟩
  | [], _ :: _, _, _, _, l, _ => by cases l
  | _ :: _, [], _, _, _, l, _ => by cases l
  | i :: is, v :: vs, σ, H, Q, l, q => ⟨v, vs, rfl, gAll_run is vs _ H Q (by simpa using l) q⟩
/-- a, b, .. = x, y, .. by a tuple -/
theorem q_pars {j2 k2 : Nat} {pt2 pt : Pos} {ts : List Expr} {is : List Nat} (E : En X) (ha : PA X es (trA (cfg X sp) ies)) (hg : PGs X ts (gAll is))
    (hn : (assignEach ts X.env).length = is.length := by rfl) (hst : (assignEach ts X.env).findIdx? (·.1) = none := by rfl)
    (hs : swapsWithSole [.Tuple ts j2 pt] (.Tuple es k2 pt2) spos.line X.env = pure false := by rfl) (hw : swappedStores [.Tuple ts j2 pt] (.Tuple es k2 pt2) X.env = pure none := by rfl)
    (h1 : (assignEach [.Tuple ts j2 pt] X.env).map (·.2) = [assign (.Tuple ts j2 pt) X.env] := by rfl) : PS X (.Assign [.Tuple ts j2 pt] (.Tuple es k2 pt2) spos) (trS (cfg X sp) (.pars false is ies)) := by
  refine ⟨fun pins s σ H D I q => ?_⟩
  have q : trA (cfg X sp) ies σ H fun vs H1 => vs.length = is.length ∧ (vs.length ≤ sizeLine ∧ ∀ p, H1 p = none → D.nx (stAllV is vs σ) (upd H1 p (.tup vs))) := q
  refine (ps_asg (pe_tup (PA.keep ha fun vs H1 => vs.length = is.length ∧ (vs.length ≤ sizeLine ∧ ∀ p, H1 p = none → D.nx (stAllV is vs σ) (upd H1 p (.tup vs))))) (pg_tup E.calm hg hn hst) hs hw h1).run pins s σ H D I ?_
  show trA (cfg X sp) ies σ H (fun vs H1 => (vs.length = is.length ∧ (vs.length ≤ sizeLine ∧ ∀ p, H1 p = none → D.nx (stAllV is vs σ) (upd H1 p (.tup vs)))) ∧ ((vs.length = is.length ∧ (vs.length ≤ sizeLine ∧ ∀ p, H1 p = none → D.nx (stAllV is vs σ) (upd H1 p (.tup vs)))) →
    (vs.length ≤ sizeLine ∧ ∀ p, H1 p = none → gTup X.K is.length (gAll is) (.ref p) σ (upd H1 p (.tup vs)) D.nx)))
  rw [keep_eq (P := fun vs H1 => vs.length = is.length ∧ (vs.length ≤ sizeLine ∧ ∀ p, H1 p = none → D.nx (stAllV is vs σ) (upd H1 p (.tup vs)))) (Q := fun vs H1 => vs.length ≤ sizeLine ∧ ∀ p, H1 p = none → gTup X.K is.length (gAll is) (.ref p) σ (upd H1 p (.tup vs)) D.nx) fun vs H1 ⟨h1, h2, h3⟩ => ?_]
  · exact q
  · exact ⟨h2, fun p hp => ⟨p, vs, rfl, .inl (.inl upd_same), h1, gAll_run is vs σ _ _ h1 (h3 p hp)⟩⟩
theorem q_unp {j2 : Nat} {pt : Pos} {ts : List Expr} {is : List Nat} (E : En X) (ha : PX X a (tr (cfg X sp) ia)) (hg : PGs X ts (gAll is))
    (hn : (assignEach ts X.env).length = is.length := by rfl) (hst : (assignEach ts X.env).findIdx? (·.1) = none := by rfl)
    (hs : swapsWithSole [.Tuple ts j2 pt] a spos.line X.env = pure false := by rfl) (hw : swappedStores [.Tuple ts j2 pt] a X.env = pure none := by rfl)
    (h1 : (assignEach [.Tuple ts j2 pt] X.env).map (·.2) = [assign (.Tuple ts j2 pt) X.env] := by rfl) : PS X (.Assign [.Tuple ts j2 pt] a spos) (trS (cfg X sp) (.unp is ia)) := ps_asg ha.v (pg_tup E.calm hg hn hst) hs hw h1
theorem pgs_0 : PGs X [] (gAll []) := pgs_nil
variable {s1 s2 : List IS} {b1 b2 : List Stmt}
theorem q_if (hd : PX X d (tr (cfg X sp) id)) (h1 : PSs X b1 (trSs (cfg X sp) s1)) (h2 : PSs X b2 (trSs (cfg X sp) s2)) : PS X (.If d b1 b2 spos) (trS (cfg X sp) (.ifs id s1 s2)) := ps_if hd.t h1 h2
theorem q_for (E : En X) (hp : PassesOwn (model X.prog X.w) X.A X.env X.xe) (hi : PI X tg iter (trI (cfg X sp) src)) (hg : PG X tg (trTg X.K it)) (hb : PSs X body (trSs (cfg X sp) ss)) (hs : ∀ x, foldedSetIterable iter X.env x = pure x := by intro _; rfl) : PS X (.For tg iter body [] spos) (trS (cfg X sp) (.fors it src ss)) := ps_for hp E.calm hi hg hb hs
theorem q_while (hp : PassesOwn (model X.prog X.w) X.A X.env X.xe) (hd : PX X d (tr (cfg X sp) id)) (hb : PSs X body (trSs (cfg X sp) ss)) : PS X (.While d body [] spos) (trS (cfg X sp) (.whl id ss)) := ps_while hp hd.t hb
theorem q_ret (ha : PX X a (tr (cfg X sp) ia)) : PS X (.Return (some a) spos) (trS (cfg X sp) (.ret ia)) := ps_ret ha.v
theorem q_retN : PS X (.Return none spos) (trS (cfg X sp) .retN) := ps_retN
theorem q_expr (ha : PX X a (tr (cfg X sp) ia)) (hs : swapsWith a none spos.line X.env = pure false := by rfl) : PS X (.Expr a spos) (trS (cfg X sp) (.expr ia)) := ps_expr ha.v hs
theorem q_brk : PS X (.Break spos) (trS (cfg X sp) .brk) := ps_break
theorem q_cnt : PS X (.Continue spos) (trS (cfg X sp) .cnt) := ps_continue
theorem q_pass : PS X (.Pass spos) (trS (cfg X sp) .pass) := ps_pass
theorem q_never : PS X st (trS (cfg X sp) .never) := ps_never
theorem q_app (i : Nat) (ha : PX X (.Name x p2) (tr (cfg X sp) (.var i))) (hb : PX X b (tr (cfg X sp) ib)) (hbase : attributeBase (.Name x p2) "append" X.env (eval (.Name x p2) X.env) = eval (.Name x p2) X.env := by rfl)
    (hfew : ((backTo pos (starEach [b] X.env)).all (fun x => !x.1) && (backToKw pos (keywordEach [] X.env)).all (fun x => x.1.isSome)
      && decide (([b] : List Expr).length + ([] : List Keyword).length + (if ([] : List Keyword).isEmpty then 0 else 1) < 30)) = true := by rfl)
    (hline : (p.endLine == pos.line) = true := by rfl) (hs : starEach [b] X.env = (false, eval b X.env) :: starEach [] X.env := by rfl) (hs2 : swapsWith (.Call (.Attribute (.Name x p2) "append" p) [b] [] pos) none spos.line X.env = pure false := by rfl) :
    PS X (.Expr (.Call (.Attribute (.Name x p2) "append" p) [b] [] pos) spos) (trS (cfg X sp) (.app i ib)) :=
  ps_expr (pe_bm PySem.F.plainAttrs_list PySem.F.slot_list_append PySem.F.type_list_append mt_append ha.v (pa_cons hb.v pa_nil hs) hbase hfew hline hs) hs2
theorem q_appix {y : Str} (i j : Nat) (ha : PX X (.Name x p2) (tr (cfg X sp) (.var i))) (hd : PX X d (tr (cfg X sp) id)) (hb : PX X (.Name y p3) (tr (cfg X sp) (.var j))) {p4 : Pos} (hpl : PlainIx d := by intro _ _; rfl)
    (hbase : attributeBase (.Subscript (.Name x p2) d p4) "append" X.env (eval (.Subscript (.Name x p2) d p4) X.env) = eval (.Subscript (.Name x p2) d p4) X.env := by rfl)
    (hfew : ((backTo pos (starEach [Expr.Name y p3] X.env)).all (fun x => !x.1) && (backToKw pos (keywordEach [] X.env)).all (fun x => x.1.isSome)
      && decide (([Expr.Name y p3] : List Expr).length + ([] : List Keyword).length + (if ([] : List Keyword).isEmpty then 0 else 1) < 30)) = true := by rfl)
    (hline : (p.endLine == pos.line) = true := by rfl) (hs : starEach [Expr.Name y p3] X.env = (false, eval (.Name y p3) X.env) :: starEach [] X.env := by rfl) (hs2 : swapsWith (.Call (.Attribute (.Subscript (.Name x p2) d p4) "append" p) [.Name y p3] [] pos) none spos.line X.env = pure false := by rfl) :
    PS X (.Expr (.Call (.Attribute (.Subscript (.Name x p2) d p4) "append" p) [.Name y p3] [] pos) spos) (trS (cfg X sp) (.appix i id j)) :=
  ps_expr (pe_bm PySem.F.plainAttrs_list PySem.F.slot_list_append PySem.F.type_list_append mt_append (pe_ix ix_A ha.v hd.v hpl) (pa_cons hb.v pa_nil hs) hbase hfew hline hs) hs2
theorem q_setix (i : Nat) (ha : PX X (.Name x p2) (tr (cfg X sp) (.var i))) (hd : PX X d (tr (cfg X sp) id)) (hb : PX X b (tr (cfg X sp) ib))
    (hset : ∀ v, assign (.Subscript (.Name x p2) d pos) X.env v = (do
      let ov ← holding [v] (eval (.Name x p2) X.env)
      let iv ← holding [v, ov] (eval d X.env)
      standAt pos
      holding [v, ov, iv] (setItem ov iv v)
      release [v, ov, iv] []) := by intro _; rfl) (hs : swapsWithSole [.Subscript (.Name x p2) d pos] b spos.line X.env = pure false := by rfl) (hw : swappedStores [.Subscript (.Name x p2) d pos] b X.env = pure none := by rfl)
    (h1 : (assignEach [.Subscript (.Name x p2) d pos] X.env).map (·.2) = [assign (.Subscript (.Name x p2) d pos) X.env] := by rfl) : PS X (.Assign [.Subscript (.Name x p2) d pos] b spos) (trS (cfg X sp) (.setix i id ib)) :=
  ps_asg hb.v (pg_sub ha.v hd.v set_list hset) hs hw h1
end
end PD
end

section
set_option Elab.async false
set_option linter.all false
set_option maxRecDepth 100000
set_option maxHeartbeats 1000000
/-! PD: tuples cut by a step, max with a default. -/
namespace PD
open PySem PySem.Spec PyProof.Rows L2 HT

theorem evens_pick {α : Type} : ∀ l : List α, (List.range ((l.length + 1) / 2)).filterMap (fun m => l[2 * m]?) = evens l
  | [] => by simp [evens]
  | [x] => by simp [evens]
  | x :: y :: r => by
    have ih := evens_pick r
    have e : ((x :: y :: r).length + 1) / 2 = (r.length + 1) / 2 + 1 := by
      rw [List.length_cons, List.length_cons]
      omega
    rw [e, List.range_succ_eq_map, List.filterMap_cons]
    show x :: ((List.range ((r.length + 1) / 2)).map Nat.succ).filterMap _ = x :: evens r
    rw [List.filterMap_map, ← ih]
    congr 1
theorem evens_length {α : Type} : ∀ l : List α, (evens l).length ≤ l.length
  | [] => Nat.le_refl _
  | [x] => Nat.le_refl _
  | x :: y :: r => by
    have := evens_length r
    unfold evens
    rw [List.length_cons, List.length_cons, List.length_cons]
    omega
theorem vals_evens : ∀ {vs : List V} {us : List Value}, Vals vs us → Vals (evens vs) (evens us)
  | [], _, .nil => .nil
  | [x], _, .cons r .nil => .cons r .nil
  | x :: y :: l, _, .cons r (.cons _ t) => .cons r (vals_evens t)
section
variable {prog : Program} {w : World} {A : Around} {E : Value → Shared → Prop} {s : Shared}
theorem sliceApplied_step {sl : Addr} {vl vu vs : Value} {n : Nat} {k : Int} {Q : Int × Int × Nat → Shared → Prop} (hs : s.heap.IsSliceOf sl vl vu vs) (pl : IsPart vl none) (pu : IsPart vu none) (ps : IsPart vs (some k)) (hk : k ≠ 0)
    (h : Q ((Builtin.Slice.sliceAdjust none none k (n : Int)).1, k, Builtin.Slice.slicePlaces (Builtin.Slice.sliceAdjust none none k (n : Int)).1 (Builtin.Slice.sliceAdjust none none k (n : Int)).2 k) s) : wpAny (model prog w) A (Builtin.Slice.sliceApplied (.ref sl) (pure (n : Int))) Q E s := by
  obtain ⟨os, hos, hcs, hds⟩ := id hs
  unfold Builtin.Slice.sliceApplied Builtin.Slice.sliceFields
  refine wpAny_bind (wpAny_bind (wpAny_field hos hds (x := vl) rfl (wpAny_bind (wpAny_field hos hds (x := vu) rfl (wpAny_bind (wpAny_field hos hds (x := vs) rfl (wpAny_pure ?_)))))))
  refine wpAny_bind (slicePart_ ps ?_)
  show wpAny _ _ (if (k == 0) = true then _ else _) _ _ s
  rw [if_neg (by simpa using hk)]
  refine wpAny_bind (slicePart_ pl (wpAny_bind (slicePart_ pu (wpAny_bind (wpAny_pure ?_)))))
  exact wpAny_pure h
theorem getItem_tuple_step {t sl : Addr} {items : Array Value} {vl vu vs : Value} {k : Int} {out : List Value} {Q : Value → Shared → Prop} (ht : IsTup s.heap t items) (hs : s.heap.IsSliceOf sl vl vu vs) (pl : IsPart vl none) (pu : IsPart vu none) (ps : IsPart vs (some k)) (hk : k ≠ 0) (hk1 : k ≠ 1)
    (ho : ((List.range (Builtin.Slice.slicePlaces (Builtin.Slice.sliceAdjust none none k (items.size : Int)).1 (Builtin.Slice.sliceAdjust none none k (items.size : Int)).2 k)).filterMap fun (m : Nat) => items[((Builtin.Slice.sliceAdjust none none k (items.size : Int)).1 + (m : Int) * k).toNat]?) = out) (hz : out.length ≤ sizeLine)
    (h : Q (.ref s.heap.objs.size) { s with heap := s.heap.push { cls := .type "tuple", data := .seq out.toArray } }) : wpAny (model prog w) A (getItem (.ref t) (.ref sl)) Q E s := by
  have htake : sizeOk (.seq out.toArray) := by
    show out.toArray.size ≤ sizeLine
    rw [List.size_toArray]
    exact hz
  obtain ⟨os, hos, hcs, hds⟩ := id hs
  have hTs : s.TypeIs (.ref sl) "slice" := ⟨os, hos, hcs⟩
  unfold getItem
  try with_reducible refine wpAny_holding ?_
  first | refine wpAny_bind (wpAny_pure ?_) | skip
  refine wpAny_bind (wpAny_sequenceKey ht.typeIs (by decide) ?_)
  refine wpAny_bind (wpAny_callSpecial?_slot (name := Str.ofString "__getitem__") ht.typeIs PyProof.Rows.slot_tuple_getitem
    (wpAny_call_entry PyProof.Rows.slot_tuple_getitem ht.typeIs entry_tuple_getitem ?_ (args_tuple_getitem _ _)))
  show wpAny _ _ (Builtin.Tuple.tupleItemsOf (.ref t) >>= _) _ _ s
  refine wpAny_bind (tupleItemsOf_ ht ?_)
  refine wpAny_bind (wpAny_typeOf hTs ?_)
  rw [if_pos (by decide)]
  refine wpAny_bind (sliceApplied_step hs pl pu ps hk ?_)
  generalize (Builtin.Slice.sliceAdjust none none k (items.size : Int)).1 = lo at ho ⊢
  generalize Builtin.Slice.slicePlaces lo (Builtin.Slice.sliceAdjust none none k (items.size : Int)).2 k = pc at ho ⊢
  have hno : ¬ ((lo == 0 && k == 1 && pc == items.size) = true) := by
    intro q
    rw [Bool.and_eq_true, Bool.and_eq_true] at q
    exact hk1 (eq_of_beq q.1.2)
  show wpAny _ _ (if (lo == 0 && k == 1 && pc == items.size) = true then _ else _) _ _ s
  rw [if_neg hno, ho]
  first
    | exact wpAny_bind (m := Builtin.Tuple.tupleExact _) (wpAny_newObj_type (wpAny_pure ⟨_, rfl, wpAny_pure h⟩) htake)
    | exact wpAny_bind (m := Builtin.Tuple.tupleExact _) (wpAny_newObj_type (wpAny_bind (wpAny_pure (wpAny_pure ⟨_, rfl, wpAny_pure h⟩))) htake)
    | exact wpAny_bind (wpAny_bind (m := Builtin.Tuple.tupleExact _) (wpAny_newObj_type (wpAny_pure (wpAny_pure ⟨_, rfl, wpAny_pure h⟩)) htake))
    | exact wpAny_bind (wpAny_bind (m := Builtin.Tuple.tupleExact _) (wpAny_newObj_type (wpAny_pure ⟨_, rfl, wpAny_pure h⟩) htake))
theorem step_rev (items : Array Value) : ((List.range (Builtin.Slice.slicePlaces (Builtin.Slice.sliceAdjust none none (-1) (items.size : Int)).1 (Builtin.Slice.sliceAdjust none none (-1) (items.size : Int)).2 (-1))).filterMap fun (m : Nat) => items[((Builtin.Slice.sliceAdjust none none (-1) (items.size : Int)).1 + (m : Int) * (-1)).toNat]?) = items.toList.reverse := by
  have e1 : Builtin.Slice.sliceAdjust none none (-1) (items.size : Int) = ((items.size : Int) - 1, -1) := rfl
  have e2 : Builtin.Slice.slicePlaces ((items.size : Int) - 1) (-1) (-1) = items.size := by
    unfold Builtin.Slice.slicePlaces
    have h1 : ¬ ((-1 : Int) > 0) := by decide
    rw [if_neg h1]
    by_cases h : (items.size : Int) - 1 > -1
    · rw [if_pos h, show (- -1 : Int) = 1 by decide, Int.ediv_one]
      omega
    · rw [if_neg h]
      omega
  rw [e1]
  show ((List.range (Builtin.Slice.slicePlaces ((items.size : Int) - 1) (-1) (-1))).filterMap fun (m : Nat) => items[((items.size : Int) - 1 + (m : Int) * (-1)).toNat]?) = _
  rw [e2, ← PySem.W.krv_all, ← List.filterMap_reverse, ← PySem.W.krv_range, List.filterMap_map]
  congr 1
  funext m
  show items[((items.size : Int) - 1 + (m : Int) * (-1)).toNat]? = items[items.size - 1 - m]?
  congr 1
  omega
theorem step_two (items : Array Value) : ((List.range (Builtin.Slice.slicePlaces (Builtin.Slice.sliceAdjust none none 2 (items.size : Int)).1 (Builtin.Slice.sliceAdjust none none 2 (items.size : Int)).2 2)).filterMap fun (m : Nat) => items[((Builtin.Slice.sliceAdjust none none 2 (items.size : Int)).1 + (m : Int) * 2).toNat]?) = evens items.toList := by
  have e1 : Builtin.Slice.sliceAdjust none none 2 (items.size : Int) = (0, (items.size : Int)) := rfl
  have e2 : Builtin.Slice.slicePlaces 0 (items.size : Int) 2 = (items.size + 1) / 2 := by
    unfold Builtin.Slice.slicePlaces
    have h1 : (2 : Int) > 0 := by decide
    rw [if_pos h1]
    by_cases h : (0 : Int) < (items.size : Int)
    · rw [if_pos h]
      omega
    · rw [if_neg h]
      omega
  rw [e1]
  show ((List.range (Builtin.Slice.slicePlaces 0 (items.size : Int) 2)).filterMap fun (m : Nat) => items[(0 + (m : Int) * 2).toNat]?) = _
  rw [e2, ← evens_pick, Array.length_toList]
  congr 1
  funext m
  rw [Array.getElem?_toList]
  congr 1
  omega
end
section
variable {X : Cx} {sp : Nat → Sp} {a b d e : Expr} {es : List Expr} {ia ib id : IE} {ies : List IE} {pos p p1 p2 p3 : Pos} {x : Str} {j k : Nat}
/-- t[::-1], t[::2], t a tuple -/
theorem pe_step {te : TE} {est : Expr} {kk : Int} {out : ∀ {α : Type}, List α → List α} (hst : ∀ (pins : List (Addr × Obj)) (s : Shared) (σ : L2.St) (H : Hp), Inv X pins σ H s → wpAny (model X.prog X.w) X.A (evalPart (some est) X.env) (fun vs s4 => Inv X pins σ H s4 ∧ IsPart vs (some kk)) X.xe s)
    (hk : kk ≠ 0) (hk1 : kk ≠ 1) (ho : ∀ items : Array Value, ((List.range (Builtin.Slice.slicePlaces (Builtin.Slice.sliceAdjust none none kk (items.size : Int)).1 (Builtin.Slice.sliceAdjust none none kk (items.size : Int)).2 kk)).filterMap fun (m : Nat) => items[((Builtin.Slice.sliceAdjust none none kk (items.size : Int)).1 + (m : Int) * kk).toNat]?) = out items.toList)
    (hl : ∀ {α : Type} (l : List α), (out l).length ≤ l.length) (hv : ∀ {vs : List V} {us : List Value}, Vals vs us → Vals (out vs) (out us)) (he : PE X e te)
    (htail : ∀ (a : Addr) (sl : Addr), subscripted (.Slice none none (some est) p3) false (.ref a) (.ref sl) = operate [.ref a, .ref sl] (getItem (.ref a) (.ref sl)) := by intro _ _; with_unfolding_all rfl) :
    PE X (.Subscript e (.Slice none none (some est) p3) pos) (fun σ H Q => te σ H fun v H1 => ∃ (a : Addr) (vs : List V), [v] = [V.ref a] ∧ SqT X.K H1 a vs ∧ newT (out vs) H1 Q) := by
  refine ⟨fun pins s σ H Q I h => ?_⟩
  refine Subscript_ (thn (he.run pins s σ H _ I h) fun v s1 ⟨x, H1, I1, r1, q1⟩ => ?_)
  obtain ⟨a, xs, ex, hx, q⟩ := q1
  obtain rfl := (List.cons.inj ex).1
  cases r1
  refine wpAny_Slice (thn (po_none.run pins s1 σ H1 (fun o H2 => o = none ∧ H2 = H1) I1 ⟨rfl, rfl⟩) fun vl s2 ⟨l, H2, I2, pl, el, e2⟩ => ?_)
  subst el e2
  refine thn (po_none.run pins s2 σ H2 (fun o H3 => o = none ∧ H3 = H2) I2 ⟨rfl, rfl⟩) fun vu s3 ⟨u, H3, I3, pu, eu, e3⟩ => ?_
  subst eu e3
  refine thn (hst pins s3 σ H3 I3) fun vs s4 ⟨I4, ps⟩ => ?_
  have I5 : Inv X pins σ H3 { s4 with heap := s4.heap.push { cls := .type "slice", data := .fields #[vl, vu, vs] } } := I4.kept (t' := s4.toks) fun b ob q => Heap.get?_push_of_some _ q
  obtain ⟨its, r, ht, hz⟩ := I5.tuple hx
  have hlen := r.length
  show wpAny (model X.prog X.w) X.A (subscriptTail e (.Slice none none (some est) p3) (.ref a) (.ref s4.heap.objs.size)) (EP X pins σ Q) X.xe { s4 with heap := s4.heap.push { cls := .type "slice", data := .fields #[vl, vu, vs] } }
  refine tail_any (ops := [.ref a, .ref s4.heap.objs.size]) ht.typeIs PyProof.Rows.slot_tuple_getitem.lookup ?_ (htail _ _)
  have hol : (out its).length ≤ sizeLine := Nat.le_trans (hl its) (by omega)
  refine getItem_tuple_step ht (Heap.IsSliceOf.new _ vl vu vs) pl pu ps hk hk1 (out := out its) (by rw [ho]) hol ?_
  exact ⟨.ref _, _, laidT (t' := s4.toks) I5 (hv r) (Nat.le_trans (hl xs) hz), rfl, q _ _ I5.fresh rfl rfl⟩
theorem px_revT (ha : PX X a (tr (cfg X sp) ia)) : PX X (.Subscript a (.Slice none none (some (.UnaryOp .USub (.Constant (.int 1) k p1) p2)) p3) pos) (tr (cfg X sp) (.fn .revT [ia])) := by
  have hst : PO X (some (.UnaryOp .USub (.Constant (.int 1) k p1) p2)) (tPart (tUn (rU fun i => .int (-i)) (tC (.int 1)))) := po_some (pe_un un_neg pe_int)
  have h := pe_step (X := X) (p3 := p3) (pos := pos) (kk := -1) (out := fun l => l.reverse) (fun pins s σ H I => thn (hst.run pins s σ H (fun o H4 => o = some (-1) ∧ H4 = H) I ⟨1, rfl, -1, rfl, rfl, rfl⟩) fun vs s4 ⟨o, H4, I4, ps, eo, e4⟩ => by
    subst eo e4
    exact ⟨I4, ps⟩) (by decide) (by decide) step_rev (fun l => by rw [List.length_reverse]; exact Nat.le_refl _) (fun r => r.reverse) ha.v
  have h2 : PE X (.Subscript a (.Slice none none (some (.UnaryOp .USub (.Constant (.int 1) k p1) p2)) p3) pos) (trFn (cfg X sp) .revT (trA (cfg X sp) [ia])) := h
  exact px h2
theorem px_evn (ha : PX X a (tr (cfg X sp) ia)) : PX X (.Subscript a (.Slice none none (some (.Constant (.int 2) k p1)) p3) pos) (tr (cfg X sp) (.fn .evn [ia])) := by
  have hst : PO X (some (.Constant (.int 2) k p1)) (tPart (tC (.int 2))) := po_some pe_int
  have h := pe_step (X := X) (p3 := p3) (pos := pos) (kk := 2) (out := fun l => evens l) (fun pins s σ H I => thn (hst.run pins s σ H (fun o H4 => o = some 2 ∧ H4 = H) I ⟨2, rfl, rfl, rfl⟩) fun vs s4 ⟨o, H4, I4, ps, eo, e4⟩ => by
    subst eo e4
    exact ⟨I4, ps⟩) (by decide) (by decide) step_two (fun l => evens_length l) (fun r => vals_evens r) ha.v
  have h2 : PE X (.Subscript a (.Slice none none (some (.Constant (.int 2) k p1)) p3) pos) (trFn (cfg X sp) .evn (trA (cfg X sp) [ia])) := h
  exact px h2

/-! ### max(xs, default=0) -/
theorem maxD_int : ∀ (ys : List Int) (y : Int), PySem.W.maxD (.int y) (ys.map PyData.int) = .int (ys.foldl (fun m y => if y > m then y else m) y)
  | [], y => rfl
  | z :: ys, y => by
    show PySem.W.maxD (if PySem.W.dataLt (.int y) (.int z) then .int z else .int y) (ys.map PyData.int) = _
    rw [PySem.W.dataLt_int, List.foldl_cons]
    by_cases h : y < z
    · rw [decide_eq_true h, if_pos rfl, maxD_int ys z, if_pos h]
    · rw [decide_eq_false h, if_neg (by decide), maxD_int ys y, if_neg h]
theorem alike_ints (ns : List Int) : PySem.W.AlikeAll (ns.map PyData.int) := by
  refine ⟨fun x hx y hy => ?_, fun x hx => ?_⟩
  · obtain ⟨i, _, rfl⟩ := List.mem_map.mp hx
    obtain ⟨j, _, rfl⟩ := List.mem_map.mp hy
    rfl
  · obtain ⟨i, _, rfl⟩ := List.mem_map.mp hx
    intro z
    cases z
theorem depthAll_ints : ∀ ns : List Int, PyData.depthAll (ns.map PyData.int) = 0
  | [] => by show PyData.depthAll [] = 0; unfold PyData.depthAll; rfl
  | x :: xs => by
    show PyData.depthAll (PyData.int x :: xs.map PyData.int) = 0
    unfold PyData.depthAll
    rw [depthAll_ints xs]
    unfold PyData.depth
    rfl
def rMaxK (K : PySem.W.Frag) : List V → List V → Hp → VK → Prop := fun vs zs H Q => match zs with
  | [.int (.ofNat 0)] => rFn K .max0 vs H Q
  | _ => False
theorem cr_max0 (hc : X.calm = true) (hu : X.A.units + 64 < cLine) : CallRK X (.builtin "max") [Str.ofString "default"] (rMaxK X.K) := by
  intro pins s σ H xs zs us ws Q I r r2 h
  unfold rMaxK at h
  split at h
  case h_2 => cases h
  obtain ⟨a, ns, rfl, hs, q⟩ := h
  obtain ⟨its, rv, hl, _⟩ := I.list hs
  rw [Vals.ref1 r]
  obtain ⟨t0, rfl⟩ : ∃ t0, ws = [.int 0 t0] := by
    cases r2 with
    | cons q1 q2 =>
      cases q2
      obtain ⟨t, rfl⟩ := q1
      exact ⟨t, rfl⟩
  have hi := rv.ints
  refine PySem.W.max_list_default (xs := ns.map PyData.int) (as := []) (d := .int 0 t0) (I.ok.hd hc) hl.isList (hi.reads s.heap) (alike_ints ns) (by rw [depthAll_ints]; omega) (fun e h' tk hk => ?_) fun y ys i v h' tk bs e hv hr hk => ?_
  · have : ns = [] := List.map_eq_nil_iff.mp e
    subst this
    exact ⟨.int 0, H, I.kept hk, ⟨_, rfl⟩, q⟩
  · cases ns with
    | nil => cases e
    | cons n ns =>
      rw [List.map_cons] at e
      obtain ⟨e1, e2⟩ := List.cons.inj e
      subst e1 e2
      rw [maxD_int] at hr
      cases hr
      exact ⟨.int _, H, I.kept hk, ⟨_, rfl⟩, q⟩
theorem px_max0 (E : En X) {kpos : Pos} (ha : PX X e (tr (cfg X sp) ia)) (hg : Gl X "max" := by rfl) (he : starEach [e] X.env = (false, eval e X.env) :: starEach [] X.env := by rfl) :
    PX X (.Call (.Name "max" p) [e] [⟨some "default", .Constant (.int 0) k p2, kpos⟩] pos) (tr (cfg X sp) (.fn .max0 [ia])) := by
  have h := pe_callBK (X := X) (x := "max") (p := p) (pos := pos) (kws := [⟨some "default", .Constant (.int 0) k p2, kpos⟩]) (cr_max0 E.calm E.hu) hg E.max PyProof.Rows.boot_max (pas_cons (sp := sp) ha pas_nil he) (pk_cons pe_int pk_nil) (he := by rw [he]; rfl) (hpl := by rw [he]; rfl)
  have h2 : PE X (.Call (.Name "max" p) [e] [⟨some "default", .Constant (.int 0) k p2, kpos⟩] pos) (trFn (cfg X sp) .max0 (trA (cfg X sp) [ia])) := by
    exact ⟨fun pins s σ H Q I q => h.run pins s σ H Q I q⟩
  exact px h2
end
end PD
end

section
set_option Elab.async false
set_option linter.all false
set_option maxRecDepth 100000
/-! PD: rules to tell what the evaluator answers. -/
namespace PD
open PySem L2

abbrev EV (C : CallT) (e : IE) (env : Env) (o : O) (env' : Env) : Prop := (sem C e).v env = some (o, env')
/-- a pure operand -/
def EP (C : CallT) (e : IE) (env : Env) (o : O) : Prop := ∃ p, (sem C e).p env = some (p, env) ∧ res env p = some o
abbrev ET (C : CallT) (e : IE) (env : Env) (b : Bool) : Prop := (sem C e).t env = some (b, env)
def EPs (C : CallT) (es : List IE) (env : Env) (os : List O) : Prop := ∃ ps, semPs C es env = some (ps, env) ∧ ress env ps = some os

section
variable {C : CallT} {env env' env1 env2 : Env} {a b c e : IE} {es : List IE} {x y z o : O} {os : List O} {i j : Nat} {k k' : Bool}
theorem ev_var {x : D} (h : look env i = some (.d x) := by rfl) : EV C (.var i) env (.d x) env := by
  show vVar i env = _
  unfold vVar
  rw [h]
theorem ev_own {os : List O} (h : look env i = some (.lst os)) : EV C (.var i) env (.d (O.toD (.lst os))) (env.set i (some (.d (O.toD (.lst os))))) := by
  show vVar i env = _
  unfold vVar
  rw [h]
theorem ep_var {x : D} (h : look env i = some (.d x) := by rfl) : EP C (.var i) env (.d x) := by
  refine ⟨.slot i, ?_, h⟩
  show pVar i env = _
  unfold pVar
  rw [h]
theorem ep_own {os : List O} (h : look env i = some (.lst os)) (hd : (datas os).isSome = true) : EP C (.var i) env (.lst os) := by
  refine ⟨.slot i, ?_, h⟩
  show pVar i env = _
  unfold pVar
  rw [h]
  simp only [hd, if_true]
theorem ep_of (h : EV C e env o env) (hp : (sem C e).p = toP (sem C e).v := by rfl) : EP C e env (.d o.toD) := by
  refine ⟨.val o.toD, ?_, rfl⟩
  rw [hp]
  unfold toP
  rw [h]
theorem ep_d {d : D} (h : EV C e env (.d d) env) (hp : (sem C e).p = toP (sem C e).v := by rfl) : EP C e env (.d d) := ep_of h hp
theorem et_of {o : O} (h : EV C e env o env) (hb : truO o = some k) (ht : (sem C e).t = toT (sem C e).v := by rfl) : ET C e env k := by
  show (sem C e).t env = _
  rw [ht]
  unfold toT
  rw [h]
  simp only [hb]
theorem et_bl {b : Bool} (h : EV C e env (.d (.bool b)) env) (ht : (sem C e).t = toT (sem C e).v := by rfl) : ET C e env b := et_of h rfl ht
theorem ev_op2 {op : Op2} (ha : EP C a env x) (hb : EP C b env y) (h : op2f op x y = some z) : EV C (.op2 op a b) env z env := by
  obtain ⟨p, h1, h2⟩ := ha
  obtain ⟨q, h3, h4⟩ := hb
  show vOp2 op _ _ env = _
  unfold vOp2
  rw [h1]
  simp only [h3, h2, h4, h, Option.map_some]
theorem ev_neg {i : Int} (ha : EP C a env (.d (.int i))) : EV C (.op1 .neg a) env (.d (.int (-i))) env := by
  obtain ⟨p, h1, h2⟩ := ha
  show vOp1 _ _ env = _
  unfold vOp1
  rw [h1]
  simp only [h2]
  rfl
theorem ev_chain {op op' : Op2} (ha : EP C a env x) (hb : EP C b env y) (hc : EP C c env z) {k k' : Bool} (h : op2f op x y = some (.d (.bool k))) (h' : k = true → op2f op' y z = some (.d (.bool k'))) : EV C (.chain op op' a b c) env (.d (.bool (k && k'))) env := by
  obtain ⟨p, h1, h2⟩ := ha
  obtain ⟨q, h3, h4⟩ := hb
  obtain ⟨r, h5, h6⟩ := hc
  show vChain op op' _ _ _ env = _
  unfold vChain
  rw [h1]
  simp only [h3, h2, h4, h]
  cases k with
  | true => simp only [h5, h4, h6, h' rfl, Option.map_some, Bool.true_and]
  | false => rfl
theorem eps_nil : EPs C [] env [] := ⟨[], rfl, rfl⟩
theorem eps_cons (h : EP C e env o) (h2 : EPs C es env os) : EPs C (e :: es) env (o :: os) := by
  obtain ⟨p, h1, h3⟩ := h
  obtain ⟨ps, h4, h5⟩ := h2
  refine ⟨p :: ps, ?_, ?_⟩
  · show mCons _ _ env = _
    unfold mCons
    rw [h1]
    simp only [h4]
  · unfold ress
    rw [h3, h5]
theorem ev_fn {f : Fn} (h : EPs C es env os) (hf : fnf f os = some o) : EV C (.fn f es) env o env := by
  obtain ⟨ps, h1, h2⟩ := h
  show vFn _ _ env = _
  unfold vFn
  rw [h1]
  simp only [h2, hf, Option.map_some]
theorem ev_fn1 {f : Fn} (h : EP C e env x) (hf : fnf f [x] = some o) : EV C (.fn f [e]) env o env := ev_fn (eps_cons h eps_nil) hf
/-- all arguments are data -/
def allD : List O → Bool
  | [] => true
  | .d _ :: os => allD os
  | _ :: _ => false
theorem lent_none : ∀ (ps : List Opnd) (os : List O), allD os = true → lentOf ps os = []
  | [], _, _ => by unfold lentOf; rfl
  | .slot _ :: _, [], _ => by unfold lentOf; rfl
  | .val _ :: _, [], _ => by unfold lentOf; rfl
  | .slot i :: ps, .d x :: os, h => by
    unfold lentOf
    rw [if_neg (show ¬ isOwn (.d x) = true from fun z => by cases z)]
    exact lent_none ps os h
  | .val _ :: ps, .d x :: os, h => by
    unfold lentOf
    exact lent_none ps os h
  | _ :: _, .lst _ :: _, h => by cases h
theorem give_none : ∀ (ps : List Opnd) (os : List O) (fs : List (Option O)) (env : Env), allD os = true → giveBack ps os fs env = env
  | [], _, _, env, _ => by unfold giveBack; rfl
  | .slot _ :: _, [], _, env, _ => by unfold giveBack; rfl
  | .val _ :: _, [], _, env, _ => by unfold giveBack; rfl
  | .slot _ :: _, _ :: _, [], env, _ => by unfold giveBack; rfl
  | .val _ :: _, _ :: _, [], env, _ => by unfold giveBack; rfl
  | .slot i :: ps, .d x :: os, f :: fs, env, h => by
    unfold giveBack
    rw [if_neg (show ¬ isOwn (.d x) = true from fun z => by cases z)]
    exact give_none ps os fs env h
  | .val _ :: ps, .d x :: os, f :: fs, env, h => by
    unfold giveBack
    exact give_none ps os fs env h
  | .slot _ :: _, .lst _ :: _, _ :: _, _, h => by cases h
  | .val _ :: _, .lst _ :: _, _ :: _, _, h => by cases h
theorem ev_call {f : Nat} {fin : List (Option O)} (h : EPs C es env os) (hc : C f os = some (o, fin)) (hl : fin.length = os.length) (hd : allD os = true := by rfl) : EV C (.call f es) env o env := by
  obtain ⟨ps, h1, h2⟩ := h
  show vCall C f _ env = _
  unfold vCall
  rw [h1]
  show doCall C f ps env = _
  unfold doCall
  simp only [h2, lent_none ps os hd, hc, give_none ps os fin env hd, guardB, nodupB, hl, beq_self_eq_true, if_true]
/-- .. with lists lent: what is lent and the environment behind by computation -/
theorem ev_callL {f : Nat} {fin : List (Option O)} {ps : List Opnd} (h1 : semPs C es env = some (ps, env1)) (h2 : ress env1 ps = some os) (hn : nodupB (lentOf ps os) = true) (hc : C f os = some (o, fin)) (hl : fin.length = os.length) (he : giveBack ps os fin env1 = env2) : EV C (.call f es) env o env2 := by
  show vCall C f _ env = _
  unfold vCall
  rw [h1]
  show doCall C f ps env1 = _
  unfold doCall
  simp only [h2, hn, hc, guardB, hl, beq_self_eq_true, if_true, he]
theorem ev_and {x y : O} (ha : EV C a env x env1) (hk : truO x = some k) (hb : k = true → EV C b env1 y env2) (h0 : k = false → y = x ∧ env2 = env1) : EV C (.and a b) env y env2 := by
  show vAnd _ _ env = _
  unfold vAnd
  rw [ha]
  simp only [hk]
  cases k with
  | true => exact hb rfl
  | false => obtain ⟨rfl, rfl⟩ := h0 rfl; rfl
/-- of bools -/
theorem ev_andB {p q : Bool} (ha : EV C a env (.d (.bool p)) env) (hb : p = true → EV C b env (.d (.bool q)) env) : EV C (.and a b) env (.d (.bool (p && q))) env := by
  cases p with
  | true => exact ev_and (k := true) ha rfl (fun _ => hb rfl) (fun z => by cases z)
  | false => exact ev_and (k := false) ha rfl (fun z => by cases z) (fun _ => ⟨rfl, rfl⟩)
theorem et_and {p q : Bool} (ha : ET C a env p) (hb : p = true → ET C b env q) : ET C (.and a b) env (p && q) := by
  show tAndM _ _ env = _
  unfold tAndM
  rw [ha]
  cases p with
  | true => exact hb rfl
  | false => rfl
theorem et_or {p q : Bool} (ha : ET C a env p) (hb : p = false → ET C b env q) : ET C (.or a b) env (p || q) := by
  show tOrM _ _ env = _
  unfold tOrM
  rw [ha]
  cases p with
  | true => rfl
  | false => exact hb rfl
theorem et_not {p : Bool} (ha : ET C a env p) : ET C (.not a) env (!p) := by
  show tNotM _ env = _
  unfold tNotM
  rw [ha]
theorem ev_not {p : Bool} (ha : EV C a env o env1) (hk : truO o = some p) : EV C (.not a) env (.d (.bool (!p))) env1 := by
  show vNot _ env = _
  unfold vNot
  rw [ha]
  simp only [hk]
theorem ev_ite {p : Bool} (hc : ET C c env p) (ha : p = true → EV C a env o env') (hb : p = false → EV C b env o env') : EV C (.ite c a b) env o env' := by
  show vIte _ _ _ env = _
  unfold vIte
  rw [hc]
  cases p with
  | true => exact ha rfl
  | false => exact hb rfl
/-- displays -/
theorem ev_tup {ds : List D} (h : semDs C es env = some (ds, env1)) (hl : ds.length ≤ sizeLine) : EV C (.tup es) env (.d (.tuple ds)) env1 := by
  show vTup _ env = _
  unfold vTup
  rw [h]
  simp only [guardB, hl, decide_true, if_true]
theorem ev_lst {ds : List O} (h : semVs C es env = some (ds, env1)) (hl : ds.length ≤ sizeLine) : EV C (.lst es) env (.lst ds) env1 := by
  show vLst _ env = _
  unfold vLst
  rw [h]
  simp only [guardB, hl, decide_true, if_true]
theorem ds_nil : semDs C [] env = some ([], env) := rfl
theorem ds_cons {ds : List D} (h : EV C e env o env1) (h2 : semDs C es env1 = some (ds, env2)) : semDs C (e :: es) env = some (o.toD :: ds, env2) := by
  show mCons (toD1 _) _ env = _
  unfold mCons toD1
  rw [h]
  simp only [h2]
theorem vs_nil : semVs C [] env = some ([], env) := rfl
theorem vs_cons {ds : List O} (h : EV C e env o env1) (h2 : semVs C es env1 = some (ds, env2)) : semVs C (e :: es) env = some (o :: ds, env2) := by
  show mCons _ _ env = _
  unfold mCons
  rw [h]
  simp only [h2]
/-- slices -/
def EI (C : CallT) (e : Option IE) (env : Env) (l : Option Int) : Prop := semI C e env = some (l, env)
theorem ei_none : EI C none env none := rfl
theorem ei_some {l : Int} (h : EV C e env (.d (.int l)) env) : EI C (some e) env (some l) := by
  show iSome _ env = _
  unfold iSome
  rw [h]
theorem ev_slc {lo hi : Option IE} {l h : Option Int} (ha : EP C a env x) (hl : EI C lo env l) (hh : EI C hi env h) (hs : slcf x l h = some z) : EV C (.slc a lo hi) env z env := by
  obtain ⟨p, h1, h2⟩ := ha
  show vSlc _ _ _ env = _
  unfold vSlc
  rw [h1]
  simp only
  rw [hl]
  simp only
  rw [hh]
  simp only [h2, hs, Option.map_some]
theorem ev_rev (ha : EP C a env x) (h : revf x = some z) : EV C (.rev a) env z env := by
  obtain ⟨p, h1, h2⟩ := ha
  show vOp1 _ _ env = _
  unfold vOp1
  rw [h1]
  simp only [h2, h, Option.map_some]
theorem ev_isi {t : Ty} {ty : Ty} (ha : EP C a env x) (h : tyOf x.toD = some ty) : EV C (.isi a t) env (.d (.bool (isiT ty [t]))) env := by
  obtain ⟨p, h1, h2⟩ := ha
  show vOp1 _ _ env = _
  unfold vOp1
  rw [h1]
  simp only [h2, isif, h, guardB, List.length_singleton]
  rfl
theorem ev_isiT {ts : List Ty} {ty : Ty} (ha : EP C a env x) (h : tyOf x.toD = some ty) (hl : ts.length ≤ 100 := by decide) : EV C (.isiT a ts) env (.d (.bool (isiT ty ts))) env := by
  obtain ⟨p, h1, h2⟩ := ha
  show vOp1 _ _ env = _
  unfold vOp1
  rw [h1]
  simp only [h2, isif, h, guardB, hl, decide_true, if_true, Option.map_some]
theorem ev_idx {tup : Bool} {j : Nat} (ha : EP C a env x) (hb : EP C b env y) (hk : isKind tup x = true) (h : idxf tup x y = some (oInt (j : Nat))) : EV C (.idx tup a b) env (.d (.int (j : Nat))) env := by
  obtain ⟨p, h1, h2⟩ := ha
  obtain ⟨q, h3, h4⟩ := hb
  show vIdx tup _ _ env = _
  unfold vIdx
  rw [h1]
  simp only [h2, hk, guardB, if_true, h3, h4, h, Option.map_some]
  rfl
theorem ev_lrng1 {j : Int} (ha : EP C a env (.d (.int j))) (h : lrngf 0 j = some z) : EV C (.lrng1 a) env z env := by
  obtain ⟨p, h1, h2⟩ := ha
  show vOp1 _ _ env = _
  unfold vOp1
  rw [h1]
  simp only [h2]
  show Option.map _ (lrngf 0 j) = _
  rw [h]
  rfl

/-! ### walks, comprehensions -/
theorem es_seq {xs : List D} {src : IE} (h : EV C src env o env1) (hs : asSeq (.d o.toD) = some xs) : sSeq (sem C src).v env = some ((xs.map .one, none), env1) := by
  unfold sSeq
  rw [h]
  simp only [hs, Option.map_some]
theorem es_varD {xs : List D} {x : D} (h : look env i = some (.d x)) (hs : asSeq (.d x) = some xs) : sVar i env = some ((xs.map .one, none), env) := by
  unfold sVar
  rw [h]
  simp only [hs, Option.map_some]
theorem es_varL {os : List O} {xs : List D} (h : look env i = some (.lst os)) (hs : datas os = some xs) : sVar i env = some ((xs.map .one, some (i, xs)), env) := by
  unfold sVar
  rw [h]
  simp only [hs]
theorem es_rng1 {j : Int} (h : EV C a env (.d (.int j)) env) (hj : smallI j = true) : semS C (.rng1 a) env = some (((rngV 0 j).map .one, none), env) := by
  show sRng1 _ env = _
  unfold sRng1
  rw [h]
  simp only [guardB, hj, if_true]
theorem es_rng2 {l j : Int} (h : EV C a env (.d (.int l)) env) (h2 : EV C b env (.d (.int j)) env) (hl : smallI l = true) (hj : smallI j = true) : semS C (.rng2 a b) env = some (((rngV l j).map .one, none), env) := by
  show sRng2 _ _ env = _
  unfold sRng2
  rw [h]
  simp only [h2, guardB, hl, hj, Bool.and_self, if_true]
theorem es_enum {xs : List D} (h : EV C a env o env) (hs : asSeq (.d o.toD) = some xs) : semS C (.enum a) env = some ((enumR xs, none), env) := by
  show sEnum _ env = _
  unfold sEnum
  rw [h]
  simp only [hs, Option.map_some]
theorem es_zip {ps : List (D × D)} (h : EV C a env x env) (h2 : EV C b env y env) (hs : zipf x.toD y.toD = some ps) : semS C (.zip a b) env = some ((zipR ps, none), env) := by
  show sZip _ _ env = _
  unfold sZip
  rw [h]
  simp only [h2, hs, Option.map_some]
/-- a loop that leaves the slots as they are -/
theorem loop_pure {α : Type} {w : Option (Nat × List D)} {f : Item → M (List α)} {g : Item → List α} : ∀ {items : List Item}, watch w env = true → (∀ x ∈ items, f x env = some (g x, env)) → loopL w f items env = some (items.flatMap g, env)
  | [], hw, _ => by unfold loopL; rw [hw]; rfl
  | x :: xs, hw, h => by
    unfold loopL
    rw [hw, h x List.mem_cons_self]
    simp only [loop_pure hw (fun y hy => h y (List.mem_cons_of_mem _ hy))]
    rfl
theorem sameD_refl_ints : ∀ xs : List Int, sameDs (xs.map .int) (xs.map .int) = true
  | [] => rfl
  | x :: xs => by
    show (sameD (.int x) (.int x) && sameDs _ _) = true
    rw [sameD_refl_ints xs]
    unfold sameD
    simp
theorem ev_comp {elt : IE} {tg : Tg} {src : Src} {cond : Option IE} {vs : List Nat} {items : List Item} {w : Option (Nat × List D)} {g : Item → List O} (hs : semS C src env = some ((items, w), env)) (hw : watch w (wipe env vs) = true)
    (ht : ∀ x ∈ items, turn1 tg (semC C cond) (sem C elt).v vs x (wipe env vs) = some (g x, wipe env vs)) (hl : (items.flatMap g).length ≤ sizeLine) (hb : back env (wipe env vs) vs = env) : EV C (.comp elt tg src cond vs) env (.lst (items.flatMap g)) env := by
  show vComp _ _ _ env = _
  unfold vComp
  rw [hs]
  simp only [loop_pure hw ht, guardB, hl, decide_true, if_true, hb]
theorem ev_comp2 {elt : IE} {tg tg1 : Tg} {src src1 : Src} {cond cond1 : Option IE} {vs vs1 : List Nat} {items : List Item} {w : Option (Nat × List D)} {g : Item → List O} (hs : semS C src env = some ((items, w), env)) (hw : watch w (wipe env vs) = true)
    (ht : ∀ x ∈ items, turn2 tg (semC C cond) (semS C src1) (turn1 tg1 (semC C cond1) (sem C elt).v vs1) vs vs1 x (wipe env vs) = some (g x, wipe env vs)) (hl : (items.flatMap g).length ≤ sizeLine) (hb : back env (wipe env vs) vs = env) : EV C (.comp2 elt tg src cond tg1 src1 cond1 vs vs1) env (.lst (items.flatMap g)) env := by
  show vComp _ _ _ env = _
  unfold vComp
  rw [hs]
  simp only [loop_pure hw ht, guardB, hl, decide_true, if_true, hb]
/-- a turn -/
theorem turn_all {elt : IE} {tg : Tg} {vs : List Nat} {x : Item} {we : Env} (h1 : stTg tg x we = some env1) (he : EV C elt env1 o env2) (hw : wipe env2 vs = we) (hg : tgSub tg vs = true := by rfl) : turn1 tg (semC C none) (sem C elt).v vs x we = some ([o], we) := by
  unfold turn1
  rw [hg, h1]
  show guardB true (match tTrue env1 with
    | some (true, e2) => match (sem C elt).v e2 with
      | some (o, e3) => some ([o], wipe e3 vs)
      | none => none
    | some (false, e2) => some ([], wipe e2 vs)
    | none => none) = _
  unfold tTrue
  simp only [he, hw]
  rfl
theorem turn_if {elt cd : IE} {tg : Tg} {vs : List Nat} {x : Item} {we : Env} {p : Bool} (h1 : stTg tg x we = some env1) (hc : ET C cd env1 p) (he : p = true → EV C elt env1 o env1) (hw : wipe env1 vs = we) (hg : tgSub tg vs = true := by rfl) : turn1 tg (semC C (some cd)) (sem C elt).v vs x we = some (if p = true then [o] else [], we) := by
  unfold turn1
  rw [hg, h1]
  show guardB true (match (sem C cd).t env1 with
    | some (true, e2) => match (sem C elt).v e2 with
      | some (o, e3) => some ([o], wipe e3 vs)
      | none => none
    | some (false, e2) => some ([], wipe e2 vs)
    | none => none) = _
  rw [hc]
  cases p with
  | true => simp only [he rfl, hw]; rfl
  | false => simp only [hw]; rfl
end

/-! ### statements -/
section
variable {C : CallT} {bor : List Bool} {env env' env1 env2 : Env} {a b c e : IE} {ss : List IS} {o : O} {i j : Nat} {out : Option Out}
theorem xs_nil : exs C bor [] env = some (.nx env) := by unfold exs; rfl
theorem xs_asg (h : EV C e env o env1) (hr : exs C bor ss (env1.set i (some o)) = out) (hm : mayB bor i = true := by rfl) : exs C bor (.asg i e :: ss) env = out := by
  (conv => lhs; unfold exs)
  unfold ex ev
  rw [hm]
  simp only [guardB, if_true, h]
  exact hr
theorem xs_ret (h : EV C e env o env1) (he : ∀ env, ex C bor (.ret e) env = (match ev C e env with
    | some (o, env1) => some (.rt o env1)
    | none => none) := by intro _; rfl) : exs C bor (.ret e :: ss) env = some (.rt o env1) := by
  (conv => lhs; unfold exs)
  rw [he]
  unfold ev
  rw [h]
theorem xs_retV {os : List O} (h : look env i = some (.lst os)) (hm : mayB bor i = true := by rfl) : exs C bor (.ret (.var i) :: ss) env = some (.rt (.lst os) (env.set i none)) := by
  (conv => lhs; unfold exs)
  unfold ex
  rw [h]
  simp only [hm, if_true]
theorem xs_retD {x : D} (h : look env i = some (.d x)) : exs C bor (.ret (.var i) :: ss) env = some (.rt (.d x) env) := by
  (conv => lhs; unfold exs)
  unfold ex
  rw [h]
theorem xs_if {p : Bool} {s1 s2 : List IS} (hc : ET C c env p) (h : (match exs C bor (if p = true then s1 else s2) env with
    | some (.nx env1) => exs C bor ss env1
    | some o => some o
    | none => none) = out) : exs C bor (.ifs c s1 s2 :: ss) env = out := by
  (conv => lhs; unfold exs)
  unfold ex evT
  rw [hc]
  cases p with
  | true => exact h
  | false => exact h
theorem xs_if_no {s1 : List IS} (hc : ET C c env false) (h : exs C bor ss env = out) : exs C bor (.ifs c s1 [] :: ss) env = out := by
  refine xs_if hc ?_
  rw [if_neg (by decide), xs_nil]
  exact h
theorem xs_if_ret {s1 s2 : List IS} {p : Bool} {env2 : Env} (hc : ET C c env p) (h : exs C bor (if p = true then s1 else s2) env = some (.rt o env2)) : exs C bor (.ifs c s1 s2 :: ss) env = some (.rt o env2) := by
  refine xs_if hc ?_
  rw [h]
theorem xs_expr (h : EV C e env o env1) (hr : exs C bor ss env1 = out) : exs C bor (.expr e :: ss) env = out := by
  (conv => lhs; unfold exs)
  unfold ex ev
  rw [h]
  exact hr
theorem xs_app {os os1 : List O} (h0 : look env i = some (.lst os)) (h : EV C e env o env1) (h1 : look env1 i = some (.lst os1)) (hl : os1.length < sizeLine) (hr : exs C bor ss (env1.set i (some (.lst (os1 ++ [o])))) = out) : exs C bor (.app i e :: ss) env = out := by
  (conv => lhs; unfold exs)
  unfold ex ev
  rw [h0]
  simp only [h, h1, guardB, hl, decide_true, if_true]
  exact hr
theorem xs_pars {sw : Bool} {is : List Nat} {es : List IE} {os : List O} (h : semVs C es env = some (os, env1)) (hr : exs C bor ss (stAll is os env1) = out) (hg : (is.all (mayB bor) && nodupB is && is.length == es.length && decide (is.length ≤ 1000)) = true := by rfl) : exs C bor (.pars sw is es :: ss) env = out := by
  (conv => lhs; unfold exs)
  unfold ex
  rw [hg, h]
  exact hr
theorem xs_for {tg : Tg} {src : Src} {body : List IS} {items : List Item} (hs : evSrcF C src env = some ((items, none), env1)) (hf : forL (fun x e => match stTg tg x e with
      | some e1 => exs C bor body e1
      | none => none) items env1 = some (.nx env2)) (hr : exs C bor ss env2 = out) (hg : tgMay bor tg = true := by rfl) : exs C bor (.fors tg src body :: ss) env = out := by
  (conv => lhs; unfold exs)
  unfold ex
  rw [hg, hs]
  exact Eq.trans (congrArg (fun (z : Option Out) => match z with
    | some (.nx env1) => exs C bor ss env1
    | some o => some o
    | none => none) hf) hr
/-- a loop by a state -/
theorem for_fold {S : Type} {E : S → Env} {f : Item → Env → Option Out} {step : S → Item → S} : ∀ (items : List Item) (s : S), (∀ x ∈ items, ∀ s, f x (E s) = some (.nx (E (step s x)))) → forL f items (E s) = some (.nx (E (items.foldl step s)))
  | [], s, _ => by unfold forL; rfl
  | x :: xs, s, h => by
    unfold forL
    rw [h x List.mem_cons_self s]
    exact for_fold xs _ fun y hy => h y (List.mem_cons_of_mem _ hy)
/-- a loop by an invariant -/
theorem for_inv {I : Nat → Env → Prop} {f : Item → Env → Option Out} : ∀ (items : List Item) (n : Nat) (env : Env), I n env → (∀ (k : Nat) (x : Item) (env : Env), items[k]? = some x → I (n + k) env → ∃ env1, f x env = some (.nx env1) ∧ I (n + k + 1) env1) → ∃ env1, forL f items env = some (.nx env1) ∧ I (n + items.length) env1
  | [], n, env, h, _ => ⟨env, by unfold forL; rfl, h⟩
  | x :: xs, n, env, h, hs => by
    obtain ⟨env1, h1, h2⟩ := hs 0 x env rfl h
    obtain ⟨env2, h3, h4⟩ := for_inv xs (n + 1) env1 h2 fun k y env2 hk hi => by
      have := hs (k + 1) y env2 (by simpa using hk) (by rw [show n + (k + 1) = n + 1 + k from by omega]; exact hi)
      rw [show n + (k + 1) + 1 = n + 1 + k + 1 from by omega] at this
      exact this
    refine ⟨env2, ?_, ?_⟩
    · unfold forL
      rw [h1]
      exact h3
    · rw [List.length_cons, show n + (xs.length + 1) = n + 1 + xs.length from by omega]
      exact h4
end
/-- a function's answer from its body -/
theorem call_rt {T : List FnRec} {n f : Nat} {r : FnRec} {os : List O} {o : O} {env : Env} {fin : List (Option O)} (hr : T[f]? = some r) (h : exs (callF T n) (os.map isOwn) r.body (os.map some ++ List.replicate (r.nl - r.np) none) = some (.rt o env)) (hf : env.take r.np = fin := by rfl) (hl : (os.length == r.np && decide (r.np ≤ r.nl)) = true := by rfl) :
    callF T (n + 1) f os = some (o, fin) := by
  show (match T[f]? with
    | some r => _
    | none => none) = _
  rw [hr]
  show guardB _ _ = _
  rw [hl, h]
  subst hf
  rfl
end PD
end

section
set_option Elab.async false
set_option linter.all false
set_option maxRecDepth 100000
/-! PD: rules to tell what the evaluator answers (2): functions, typed lists. -/
namespace PD
open PySem L2

/-- function i of T answers o, from the depth k on -/
def Ret (T : List FnRec) (k i : Nat) (os : List O) (o : O) : Prop := ∀ n, ∃ fin, callF T (n + k) i os = some (o, fin) ∧ fin.length = os.length
section
variable {T : List FnRec} {k j i : Nat} {os : List O} {o : O}
theorem Ret.le (h : Ret T j i os o) (hj : j ≤ k) : Ret T k i os o := fun n => by
  obtain ⟨m, rfl⟩ := Nat.le.dest hj
  have := h (n + m)
  rw [show n + m + j = n + (j + m) from by omega] at this
  exact this
theorem ret_of {r : FnRec} (hr : T[i]? = some r) (h : ∀ n, ∃ env, exs (callF T (n + k)) (os.map isOwn) r.body (os.map some ++ List.replicate (r.nl - r.np) none) = some (.rt o env) ∧ env.length = r.nl) (hl : (os.length == r.np && decide (r.np ≤ r.nl)) = true := by rfl) : Ret T (k + 1) i os o := fun n => by
  obtain ⟨env, h1, h2⟩ := h n
  refine ⟨env.take r.np, call_rt (n := n + k) hr h1 rfl hl, ?_⟩
  simp only [Bool.and_eq_true, beq_iff_eq, decide_eq_true_eq] at hl
  rw [List.length_take]
  omega
theorem ret_nx {r : FnRec} (hr : T[i]? = some r) (h : ∀ n, ∃ env, exs (callF T (n + k)) (os.map isOwn) r.body (os.map some ++ List.replicate (r.nl - r.np) none) = some (.nx env) ∧ env.length = r.nl) (hl : (os.length == r.np && decide (r.np ≤ r.nl)) = true := by rfl) : Ret T (k + 1) i os (.d .none) := fun n => by
  obtain ⟨env, h1, h2⟩ := h n
  refine ⟨env.take r.np, ?_, ?_⟩
  · show (match T[i]? with
    | some r => _
    | none => none) = _
    rw [hr]
    show guardB _ _ = _
    rw [hl]
    exact congrArg (fun z => guardB true (finOk r.np z)) h1
  · simp only [Bool.and_eq_true, beq_iff_eq, decide_eq_true_eq] at hl
    rw [List.length_take]
    omega
variable {n : Nat} {env env1 env2 : Env} {es : List IE} {a b c e : IE}
theorem ev_ret (h : Ret T j i os o) (hj : j ≤ k) (ha : EPs (callF T (n + k)) es env os) (hd : allD os = true := by rfl) : EV (callF T (n + k)) (.call i es) env o env := by
  obtain ⟨fin, h1, h2⟩ := h.le hj n
  exact ev_call ha h1 h2 hd
end

/-! ### typed lists -/
section
variable {C : CallT} {env env1 env2 : Env} {a b c e : IE} {o : O} {α : Type}
theorem loop_map {β : Type} {w : Option (Nat × List D)} {f : Item → M (List β)} {emb : α → Item} {g : α → List β} : ∀ {xs : List α}, watch w env = true → (∀ a ∈ xs, f (emb a) env = some (g a, env)) → loopL w f (xs.map emb) env = some (xs.flatMap g, env)
  | [], hw, _ => by
    show loopL w f [] env = _
    unfold loopL
    rw [hw]; rfl
  | x :: xs, hw, h => by
    show loopL w f (emb x :: xs.map emb) env = _
    unfold loopL
    rw [hw, h x List.mem_cons_self]
    simp only [loop_map hw (fun y hy => h y (List.mem_cons_of_mem _ hy))]
    rfl
theorem ev_compM {elt : IE} {tg : Tg} {src : Src} {cond : Option IE} {vs : List Nat} {xs : List α} {emb : α → Item} {w : Option (Nat × List D)} {g : α → List O} (hs : semS C src env = some ((xs.map emb, w), env)) (hw : watch w (wipe env vs) = true)
    (ht : ∀ a ∈ xs, turn1 tg (semC C cond) (sem C elt).v vs (emb a) (wipe env vs) = some (g a, wipe env vs)) (hl : (xs.flatMap g).length ≤ sizeLine) (hb : back env (wipe env vs) vs = env) : EV C (.comp elt tg src cond vs) env (.lst (xs.flatMap g)) env := by
  show vComp _ _ _ env = _
  unfold vComp
  rw [hs]
  simp only [loop_map hw ht, guardB, hl, decide_true, if_true, hb]
theorem ev_comp2M {elt : IE} {tg tg1 : Tg} {src src1 : Src} {cond cond1 : Option IE} {vs vs1 : List Nat} {xs : List α} {emb : α → Item} {w : Option (Nat × List D)} {g : α → List O} (hs : semS C src env = some ((xs.map emb, w), env)) (hw : watch w (wipe env vs) = true)
    (ht : ∀ a ∈ xs, turn2 tg (semC C cond) (semS C src1) (turn1 tg1 (semC C cond1) (sem C elt).v vs1) vs vs1 (emb a) (wipe env vs) = some (g a, wipe env vs)) (hl : (xs.flatMap g).length ≤ sizeLine) (hb : back env (wipe env vs) vs = env) : EV C (.comp2 elt tg src cond tg1 src1 cond1 vs vs1) env (.lst (xs.flatMap g)) env := by
  show vComp _ _ _ env = _
  unfold vComp
  rw [hs]
  simp only [loop_map hw ht, guardB, hl, decide_true, if_true, hb]
/-- the outer turn of a two-clause comprehension, no outer condition -/
theorem turn2_all {β : Type} {tg : Tg} {vs vs1 : List Nat} {x : Item} {we : Env} {src1 : Src} {inner : Item → M (List O)} {ys : List β} {emb : β → Item} {w : Option (Nat × List D)} {g : β → List O} (h1 : stTg tg x we = some env1) (hs : semS C src1 env1 = some ((ys.map emb, w), env1)) (hw : watch w (wipe env1 vs1) = true)
    (ht : ∀ b ∈ ys, inner (emb b) (wipe env1 vs1) = some (g b, wipe env1 vs1)) (hb : wipe (wipe env1 vs1) vs = we) (hg : (tgSub tg vs && vs1.all vs.contains) = true := by rfl) : turn2 tg (semC C none) (semS C src1) inner vs vs1 x we = some (ys.flatMap g, we) := by
  unfold turn2
  rw [hg, h1]
  show guardB true (match tTrue env1 with
    | some (true, e2) => match semS C src1 e2 with
      | some ((items, w), e3) => match loopL w inner items (wipe e3 vs1) with
        | some (ys, e4) => some (ys, wipe e4 vs)
        | none => none
      | none => none
    | some (false, e2) => some ([], wipe e2 vs)
    | none => none) = _
  unfold tTrue
  simp only [hs, loop_map hw ht, hb]
  rfl
theorem datas_map {β : Type} (f : β → D) : ∀ xs : List β, datas (xs.map fun x => O.d (f x)) = some (xs.map f)
  | [] => rfl
  | x :: xs => by
    show (datas (xs.map fun x => O.d (f x))).map (f x :: ·) = _
    rw [datas_map f xs]
    rfl
theorem asList_map {β : Type} (f : β → D) (xs : List β) : asList (.lst (xs.map fun x => O.d (f x))) = some (xs.map f) := datas_map f xs
theorem asSeq_map {β : Type} (f : β → D) (xs : List β) : asSeq (.lst (xs.map fun x => O.d (f x))) = some (xs.map f) := by
  unfold asSeq
  rw [asList_map]
theorem toDs_map {β : Type} (f : β → D) : ∀ xs : List β, O.toDs (xs.map fun x => O.d (f x)) = xs.map f
  | [] => by unfold O.toDs; rfl
  | x :: xs => by
    show O.toDs (.d (f x) :: xs.map fun x => O.d (f x)) = _
    unfold O.toDs
    rw [toDs_map f xs]
    rfl
theorem toD_map {β : Type} (f : β → D) (xs : List β) : O.toD (.lst (xs.map fun x => O.d (f x))) = .list (xs.map f) := by
  show PyData.list (O.toDs _) = _
  rw [toDs_map]
theorem isInts_map : ∀ xs : List Int, isInts (xs.map .int) = some xs
  | [] => rfl
  | x :: xs => by
    show (isInts (xs.map .int)).map (x :: ·) = _
    rw [isInts_map xs]
    rfl
theorem isBools_map : ∀ xs : List Bool, isBools (xs.map .bool) = some xs
  | [] => rfl
  | x :: xs => by
    show (isBools (xs.map .bool)).map (x :: ·) = _
    rw [isBools_map xs]
    rfl
theorem flatMap_one {β : Type} (f : α → β) (xs : List α) : xs.flatMap (fun x => [f x]) = xs.map f := by
  induction xs with
  | nil => rfl
  | cons x xs ih => rw [List.flatMap_cons, ih]; rfl
theorem flatMap_if {β : Type} (p : α → Bool) (f : α → β) (xs : List α) : xs.flatMap (fun x => if p x = true then [f x] else []) = (xs.filter p).map f := by
  induction xs with
  | nil => rfl
  | cons x xs ih =>
    rw [List.flatMap_cons, ih, List.filter_cons]
    cases p x <;> rfl
theorem rngV_map (j : Int) : (rngV 0 j).map Item.one = (List.range j.toNat).map fun k => Item.one (.int (k : Nat)) := by
  unfold rngV
  rw [List.map_map, Int.sub_zero]
  refine List.map_congr_left fun k _ => ?_
  show Item.one (.int (0 + (k : Nat))) = _
  rw [Int.zero_add]
end
end PD
end

section
set_option Elab.async false
set_option linter.all false
set_option maxRecDepth 100000
/-! PD: rules to tell what the evaluator answers (3): lists of ints, rows of ints. -/
namespace PD
open PySem L2
abbrev dT (xs : List Int) : D := .tuple (xs.map .int)
abbrev dL (xs : List Int) : D := .list (xs.map .int)
abbrev dW (w : List (List Int)) : D := .tuple (w.map dT)
abbrev oB (b : Bool) : O := .d (.bool b)
abbrev oI (i : Int) : O := .d (.int i)

/-! ### no dict anywhere -/
mutual
def noD : D → Bool
  | .dict _ => false
  | .list xs => noDs xs
  | .tuple xs => noDs xs
  | _ => true
def noDs : List D → Bool
  | [] => true
  | x :: xs => noD x && noDs xs
end
mutual
theorem sameD_refl : ∀ x : D, noD x = true → sameD x x = true
  | .none, _ => by unfold sameD; rfl
  | .bool b, _ => by unfold sameD; simp
  | .int b, _ => by unfold sameD; simp
  | .str b, _ => by unfold sameD; simp
  | .list xs, h => by
    unfold noD at h
    unfold sameD
    exact sameDs_refl xs h
  | .tuple xs, h => by
    unfold noD at h
    unfold sameD
    exact sameDs_refl xs h
  | .dict _, h => by unfold noD at h; cases h
theorem sameDs_refl : ∀ xs : List D, noDs xs = true → sameDs xs xs = true
  | [], _ => by unfold sameDs; rfl
  | x :: xs, h => by
    unfold noDs at h
    simp only [Bool.and_eq_true] at h
    unfold sameDs
    rw [sameD_refl x h.1, sameDs_refl xs h.2]
    rfl
end
theorem noDs_map {α : Type} (f : α → D) (h : ∀ a, noD (f a) = true) : ∀ xs : List α, noDs (xs.map f) = true
  | [] => by show noDs [] = true; unfold noDs; rfl
  | x :: xs => by
    show noDs (f x :: xs.map f) = true
    unfold noDs
    rw [h, noDs_map f h xs]
    rfl
theorem noD_int (i : Int) : noD (.int i) = true := by unfold noD; rfl
theorem noD_T (xs : List Int) : noD (dT xs) = true := by
  unfold dT noD
  exact noDs_map _ noD_int xs
theorem noD_L (xs : List Int) : noD (dL xs) = true := by
  unfold dL noD
  exact noDs_map _ noD_int xs
/-- a walked list that was not changed -/
theorem watch_own {env : Env} {i : Nat} {os : List O} {xs : List D} (h : look env i = some (.lst os)) (hd : datas os = some xs) (hn : noDs xs = true) : watch (some (i, xs)) env = true := by
  unfold watch
  simp only [h, hd]
  exact sameDs_refl xs hn

/-! ### depths -/
theorem depthAll_le {α : Type} (f : α → D) (k : Nat) (h : ∀ a, (f a).depth ≤ k) : ∀ xs : List α, PyData.depthAll (xs.map f) ≤ k
  | [] => by show PyData.depthAll [] ≤ k; unfold PyData.depthAll; exact Nat.zero_le _
  | x :: xs => by
    show PyData.depthAll (f x :: xs.map f) ≤ k
    unfold PyData.depthAll
    exact Nat.max_le.mpr ⟨h x, depthAll_le f k h xs⟩
theorem depth_int (i : Int) : (PyData.int i).depth ≤ 0 := by unfold PyData.depth; exact Nat.le_refl _
theorem depth_T (xs : List Int) : (dT xs).depth ≤ 1 := by
  unfold dT PyData.depth
  exact Nat.succ_le_succ (depthAll_le _ 0 depth_int xs)
theorem depth_L (xs : List Int) : (dL xs).depth ≤ 1 := by
  unfold dL PyData.depth
  exact Nat.succ_le_succ (depthAll_le _ 0 depth_int xs)
theorem depth_W (w : List (List Int)) : (dW w).depth ≤ 2 := by
  unfold dW PyData.depth
  exact Nat.succ_le_succ (depthAll_le _ 1 depth_T w)
theorem dep2_r {a b : D} {k : Nat} (h : b.depth ≤ k) (hk : k ≤ 60) : dep2 a b = true := by
  unfold dep2
  exact decide_eq_true (Nat.le_trans (Nat.min_le_right ..) (Nat.le_trans h hk))
theorem dep2_l {a b : D} {k : Nat} (h : a.depth ≤ k) (hk : k ≤ 60) : dep2 a b = true := by
  unfold dep2
  exact decide_eq_true (Nat.le_trans (Nat.min_le_left ..) (Nat.le_trans h hk))
theorem depI_r {xs : List D} {b : D} {k : Nat} (h : b.depth ≤ k) (hk : k ≤ 60) : depI xs b = true := by
  unfold depI
  exact decide_eq_true (Nat.le_trans (Nat.min_le_right ..) (Nat.le_trans h hk))

/-! ### equality -/
theorem eqv_int (a b : Int) : PyData.eqv (.int a) (.int b) = decide (a = b) := by
  unfold PyData.eqv
  rw [Bool.beq_eq_decide_eq]
theorem eqvAll_map {α : Type} [DecidableEq α] (f : α → D) (h : ∀ a b, PyData.eqv (f a) (f b) = decide (a = b)) : ∀ xs ys : List α, PyData.eqvAll (xs.map f) (ys.map f) = decide (xs = ys)
  | [], [] => by show PyData.eqvAll [] [] = _; unfold PyData.eqvAll; rfl
  | [], y :: ys => by show PyData.eqvAll [] (f y :: ys.map f) = _; unfold PyData.eqvAll; simp
  | x :: xs, [] => by show PyData.eqvAll (f x :: xs.map f) [] = _; unfold PyData.eqvAll; simp
  | x :: xs, y :: ys => by
    show PyData.eqvAll (f x :: xs.map f) (f y :: ys.map f) = _
    unfold PyData.eqvAll
    rw [h, eqvAll_map f h xs ys]
    by_cases e : x = y
    · subst e; simp
    · simp [e]
theorem eqv_T (xs ys : List Int) : PyData.eqv (dT xs) (dT ys) = decide (xs = ys) := by
  unfold dT PyData.eqv
  exact eqvAll_map _ eqv_int xs ys
theorem eqv_L (xs ys : List Int) : PyData.eqv (dL xs) (dL ys) = decide (xs = ys) := by
  unfold dL PyData.eqv
  exact eqvAll_map _ eqv_int xs ys
theorem eqv_W (xs ys : List (List Int)) : PyData.eqv (dW xs) (dW ys) = decide (xs = ys) := by
  unfold dW PyData.eqv
  exact eqvAll_map _ eqv_T xs ys
theorem op_eq {a b : O} {r : Bool} (hd : dep2 a.toD b.toD = true) (h : PyData.eqv a.toD b.toD = r) : op2f .eq a b = some (oB r) := by
  show guardB _ _ = _
  rw [hd]
  show some (oBl (eqD a.toD b.toD)) = _
  unfold eqD
  rw [h]
  rfl
theorem op_ne {a b : O} {r : Bool} (hd : dep2 a.toD b.toD = true) (h : PyData.eqv a.toD b.toD = r) : op2f .ne a b = some (oB (!r)) := by
  show guardB _ _ = _
  rw [hd]
  show some (oBl (!eqD a.toD b.toD)) = _
  unfold eqD
  rw [h]
  rfl
theorem eq_int (a b : Int) : op2f .eq (oI a) (oI b) = some (oB (decide (a = b))) := op_eq (dep2_r (depth_int b) (by decide)) (eqv_int a b)
theorem ne_int (a b : Int) : op2f .ne (oI a) (oI b) = some (oB (!decide (a = b))) := op_ne (dep2_r (depth_int b) (by decide)) (eqv_int a b)
theorem any_int (a : Int) : ∀ xs : List Int, (xs.map PyData.int).any (fun z => eqD z (.int a)) = decide (a ∈ xs)
  | [] => by simp
  | x :: xs => by
    rw [List.map_cons, List.any_cons, any_int a xs]
    unfold eqD
    rw [eqv_int]
    by_cases e : x = a
    · subst e; simp
    · simp [e, Ne.symm e]
theorem in_int {o : O} {xs : List Int} (a : Int) (h : asSeq o = some (xs.map .int)) : op2f .isin (oI a) o = some (oB (decide (a ∈ xs))) := by
  show (match asSeq o with
    | some xs => guardB (depI xs (PyData.int a)) (some (oBl (xs.any fun z => eqD z (.int a))))
    | none => none) = _
  rw [h]
  simp only [guardB, depI_r (depth_int a) (by decide : 0 ≤ 60), if_true, any_int]
  rfl
theorem nin_int {o : O} {xs : List Int} (a : Int) (h : asSeq o = some (xs.map .int)) : op2f .notin (oI a) o = some (oB (!decide (a ∈ xs))) := by
  show (match asSeq o with
    | some xs => guardB (depI xs (PyData.int a)) (some (oBl (!xs.any fun z => eqD z (.int a))))
    | none => none) = _
  rw [h]
  simp only [guardB, depI_r (depth_int a) (by decide : 0 ≤ 60), if_true, any_int]
  rfl
/-- x[i] at a place -/
theorem ix_nat {α : Type} {o : O} {f : α → D} {xs : List α} {i : Int} {k : Nat} {a : α} (h : asSeq o = some (xs.map f)) (hi : i = (k : Nat)) (ha : xs[k]? = some a) : op2f .ix o (oI i) = some (.d (f a)) := by
  show (match asSeq o, asInt (oI i) with
    | some xs, some i => (atI xs i).map O.d
    | _, _ => none) = _
  rw [h]
  show (atI (xs.map f) i).map O.d = _
  have hk : k < xs.length := by
    by_cases q : k < xs.length
    · exact q
    · rw [List.getElem?_eq_none (by omega)] at ha; cases ha
  have e : ixN (xs.map f).length i = some k := by
    unfold ixN
    rw [List.length_map, if_pos (by omega), if_pos (by omega)]
    rw [hi]
    rfl
  unfold atI
  rw [e]
  show ((xs.map f)[k]?).map O.d = _
  rw [List.getElem?_map, ha]
  rfl
theorem len_map {α : Type} {o : O} {f : α → D} {xs : List α} (h : asSeq o = some (xs.map f)) : fnf .len [o] = some (oI (xs.length : Nat)) := by
  show (match asSeq o with
    | some xs => some (oInt xs.length)
    | none => _) = _
  rw [h]
  show some (oInt ((xs.map f).length : Nat)) = _
  rw [List.length_map]
  rfl
theorem tuple_map {α : Type} {f : α → D} {xs : List α} : fnf .tuple [.d (.list (xs.map f))] = some (.d (.tuple (xs.map f))) := rfl
theorem all_map {α : Type} {p : α → Bool} {xs : List α} : fnf .all [.d (.list (xs.map fun a => .bool (p a)))] = some (oB (xs.all p)) := by
  show (match isBools (xs.map fun a => PyData.bool (p a)) with
    | some bs => some (oBl (bs.all id))
    | none => none) = _
  have : xs.map (fun a => PyData.bool (p a)) = (xs.map p).map .bool := by rw [List.map_map]; rfl
  rw [this, isBools_map]
  show some (oBl ((xs.map p).all id)) = _
  rw [List.all_map]
  rfl
theorem sset_fn {o : O} {xs : List Int} (h : asSeq o = some (xs.map .int)) (h1 : xs.length + 1 < 4096) (h2 : (sset xs).length < 64) : fnf .sset [o] = some (.lst ((sset xs).map fun i => .d (.int i))) := by
  show (match asSeq o with
    | some xs => match isInts xs with
      | some ns => guardB (decide (ns.length + 1 < 4096) && decide ((sset ns).length < 64)) (some (mkL ((sset ns).map .int)))
      | none => none
    | none => none) = _
  rw [h]
  simp only [isInts_map, guardB, h1, h2, decide_true, Bool.and_self, if_true]
  show some (O.lst (((sset xs).map PyData.int).map .d)) = _
  rw [List.map_map]
  rfl
end PD
end

section
set_option Elab.async false
set_option linter.all false
set_option maxRecDepth 100000
/-! PD: rules to tell what the evaluator answers (4): sorted pairs of ints. -/
namespace PD
open PySem L2 PyProof.Rows
abbrev pD (p : Int × Int) : D := .tuple [.int p.1, .int p.2]
def le2 (p q : Int × Int) : Bool := decide (p.1 < q.1) || (decide (p.1 = q.1) && decide (p.2 ≤ q.2))
theorem toks_pD (p : Int × Int) : PySem.W.keyToks (pD p) = [.inl 1, .inl p.1, .inl 1, .inl p.2, .inl 0] := by
  unfold pD
  simp only [PySem.W.keyToks, PySem.W.keyToksAll, List.cons_append, List.nil_append]
theorem dataLe_pD (p q : Int × Int) : PySem.W.dataLe false id (pD p) (pD q) = le2 p q := by
  show (!lexLt itemOrd (PySem.W.keyToks (pD q)) (PySem.W.keyToks (pD p))) = _
  rw [toks_pD, toks_pD]
  have t : ∀ (a b : Int) (r s : List (Int ⊕ List Nat)), lexLt itemOrd (.inl a :: r) (.inl b :: s) = (decide (a < b) || (!decide (b < a) && lexLt itemOrd r s)) := fun a b r s => lex_cons (O := itemOrd) _ _ _ _
  have e : lexLt itemOrd ([] : List (Int ⊕ List Nat)) [] = false := rfl
  rw [t, t, t, t, t, e]
  unfold le2
  by_cases h1 : q.1 < p.1
  · have h2 : ¬ p.1 < q.1 := by omega
    have h3 : ¬ p.1 = q.1 := by omega
    simp [h1, h2, h3]
  · by_cases h2 : p.1 < q.1
    · have h3 : ¬ p.1 = q.1 := by omega
      simp [h1, h2, h3]
    · have h3 : p.1 = q.1 := by omega
      by_cases h4 : q.2 < p.2
      · have h5 : ¬ p.2 ≤ q.2 := by omega
        simp [h3, h4, h5]
      · have h5 : p.2 ≤ q.2 := by omega
        simp [h3, h4, h5]
theorem le2_anti (p q : Int × Int) (h1 : le2 p q = true) (h2 : le2 q p = true) : p = q := by
  unfold le2 at h1 h2
  simp only [Bool.or_eq_true, Bool.and_eq_true, decide_eq_true_eq] at h1 h2
  have : p.1 = q.1 ∧ p.2 = q.2 := by omega
  exact Prod.ext this.1 this.2
theorem le2_trans (a b c : Int × Int) (h1 : le2 a b = true) (h2 : le2 b c = true) : le2 a c = true := by
  unfold le2 at h1 h2 ⊢
  simp only [Bool.or_eq_true, Bool.and_eq_true, decide_eq_true_eq] at h1 h2 ⊢
  omega
theorem le2_total (a b : Int × Int) : (le2 a b || le2 b a) = true := by
  unfold le2
  simp only [Bool.or_eq_true, Bool.and_eq_true, decide_eq_true_eq]
  omega
/-- what is sorted and has the same items is the sorted list -/
theorem sort2_eq {xs ys : List (Int × Int)} (hp : xs.Perm ys) (hs : ys.Pairwise fun p q => le2 p q = true) : xs.mergeSort le2 = ys := by
  refine List.Perm.eq_of_pairwise (le := fun p q => le2 p q = true) (fun a b _ _ h1 h2 => le2_anti a b h1 h2) (List.pairwise_mergeSort le2_trans le2_total xs) hs ((List.mergeSort_perm xs le2).trans hp)
theorem dsort_pD (xs : List (Int × Int)) : dsort (xs.map pD) = (xs.mergeSort le2).map pD := by
  unfold dsort
  exact (List.map_mergeSort (r := le2) (s := PySem.W.dataLe false id) (f := pD) fun a _ b _ => (dataLe_pD a b).symm).symm
theorem sortB_pD (xs : List (Int × Int)) : sortB (xs.map pD) = true := by
  unfold sortB
  simp only [Bool.and_eq_true, Bool.or_eq_true]
  refine ⟨⟨?_, .inl ?_⟩, ?_⟩
  · unfold alikeB
    rw [List.all_map]
    refine List.all_eq_true.mpr fun p _ => ?_
    show (xs.map pD).all _ = true
    rw [List.all_map]
    refine List.all_eq_true.mpr fun q _ => ?_
    show PySem.W.alike (pD p) (pD q) = true
    simp only [pD, PySem.W.alike, PySem.W.alikeAll, Bool.and_self]
  · rw [List.all_map]
    exact List.all_eq_true.mpr fun p _ => rfl
  · rw [List.all_map]
    refine List.all_eq_true.mpr fun p _ => ?_
    show decide ((pD p).depth ≤ 60) = true
    refine decide_eq_true ?_
    simp only [pD, PyData.depth, PyData.depthAll]
    decide
theorem sorted_pD {o : O} {xs : List (Int × Int)} (h : asList o = some (xs.map pD)) : fnf .sorted [o] = some (.lst ((xs.mergeSort le2).map fun p => .d (pD p))) := by
  show (match asList o with
    | some xs => guardB (sortB xs) (some (mkL (dsort xs)))
    | none => none) = _
  rw [h]
  simp only [sortB_pD, guardB, if_true, dsort_pD]
  unfold mkL
  rw [List.map_map]
  rfl
end PD
end

section
set_option Elab.async false
set_option linter.all false
/-! Webs: rows of numbers below their own place; their closure. Plain mathematics. -/
namespace WM
open PD

theorem len_bound : ∀ (l : List Int) (lo hi : Int), l.Pairwise (· < ·) → (∀ a ∈ l, lo ≤ a ∧ a < hi) → l.length ≤ (hi - lo).toNat
  | [], _, _, _, _ => Nat.zero_le _
  | x :: xs, lo, hi, h, hb => by
    have h' := List.pairwise_cons.mp h
    have := len_bound xs (x + 1) hi h'.2 fun a ha => ⟨by have := h'.1 a ha; omega, (hb a (List.mem_cons_of_mem _ ha)).2⟩
    have := hb x List.mem_cons_self
    rw [List.length_cons]
    omega
/-- a row of deed k -/
structure RowOk (k : Nat) (r : List Int) : Prop where
  lt : r.Pairwise (· < ·)
  bd : ∀ a ∈ r, 0 ≤ a ∧ a < (k : Int)
theorem RowOk.len {k : Nat} {r : List Int} (h : RowOk k r) : r.length ≤ k := by
  have := len_bound r 0 k h.lt h.bd
  omega
structure Web (w : List (List Int)) : Prop where
  len : w.length ≤ 60
  row : ∀ (k : Nat) (r : List Int), w[k]? = some r → RowOk k r
theorem Web.mem {w : List (List Int)} (h : Web w) {r : List Int} (hr : r ∈ w) : r.length ≤ 60 := by
  obtain ⟨k, hk, e⟩ := List.mem_iff_getElem.mp hr
  have := (h.row k r (by rw [List.getElem?_eq_getElem hk, e])).len
  have := h.len
  omega
/-- row k -/
def rw' (w : List (List Int)) (k : Nat) : List Int := w.getD k []
def clIn (found : List (List Int)) (row : List Int) : List Int := row ++ row.flatMap fun near => rw' found near.toNat
def clRow (found : List (List Int)) (row : List Int) : List Int := sset (clIn found row)
/-- the closure -/
def ab (w : List (List Int)) : List (List Int) := w.foldl (fun found row => found ++ [clRow found row]) []
theorem ab_snoc (w : List (List Int)) (r : List Int) : ab (w ++ [r]) = ab w ++ [clRow (ab w) r] := by
  unfold ab
  rw [List.foldl_append]
  rfl
theorem ab_len (w : List (List Int)) : (ab w).length = w.length := by
  have gen : ∀ (w f : List (List Int)), (w.foldl (fun found row => found ++ [clRow found row]) f).length = f.length + w.length := by
    intro w
    induction w with
    | nil => intro f; rfl
    | cons r w ih => intro f; rw [List.foldl_cons, ih]; simp; omega
  have := gen w []
  simpa [ab] using this
theorem take_succ' {w : List (List Int)} {k : Nat} {r : List Int} (h : w[k]? = some r) : w.take (k + 1) = w.take k ++ [r] := by
  rw [List.take_succ, h]
  rfl
theorem ab_take (w : List (List Int)) (k : Nat) (r : List Int) (h : w[k]? = some r) : ab (w.take (k + 1)) = ab (w.take k) ++ [clRow (ab (w.take k)) r] := by
  rw [take_succ' h, ab_snoc]
theorem ab_pre (w : List (List Int)) : ∀ k, k ≤ w.length → ab (w.take k) = (ab w).take k := by
  have gen : ∀ (v w : List (List Int)), (ab (w ++ v)).take w.length = ab w := by
    intro v
    induction v with
    | nil =>
      intro w
      rw [List.append_nil, ← ab_len w, List.take_length]
    | cons r v ih =>
      intro w
      have h := ih (w ++ [r])
      rw [List.append_assoc, List.singleton_append, ab_snoc] at h
      have h2 := congrArg (List.take w.length) h
      rw [List.take_take, List.length_append, List.length_singleton, Nat.min_eq_left (Nat.le_succ _)] at h2
      rw [h2, List.take_append_of_le_length (by rw [ab_len]; exact Nat.le_refl _), ← ab_len w, List.take_length]
  intro k hk
  have h := gen (w.drop k) (w.take k)
  rw [List.take_append_drop, List.length_take, Nat.min_eq_left hk] at h
  exact h.symm
/-- the closure's row k -/
theorem ab_get {w : List (List Int)} {k : Nat} {r : List Int} (h : w[k]? = some r) : (ab w)[k]? = some (clRow (ab (w.take k)) r) := by
  have hk : k < w.length := by
    by_cases q : k < w.length
    · exact q
    · rw [List.getElem?_eq_none (by omega)] at h; cases h
  have e := ab_pre w (k + 1) hk
  have : ((ab w).take (k + 1))[k]? = (ab w)[k]? := by rw [List.getElem?_take]; simp
  rw [← this, ← e, ab_take w k r h]
  rw [List.getElem?_append_right (by rw [ab_len, List.length_take]; omega), ab_len, List.length_take, Nat.min_eq_left (by omega), Nat.sub_self]
  rfl
theorem rw_take {v : List (List Int)} {j k : Nat} (h : j < k) : rw' (v.take k) j = rw' v j := by
  unfold rw'
  rw [List.getD_eq_getElem?_getD, List.getD_eq_getElem?_getD, List.getElem?_take, if_pos h]
theorem rw_some {w : List (List Int)} {k : Nat} {r : List Int} (h : w[k]? = some r) : rw' w k = r := by
  unfold rw'
  rw [List.getD_eq_getElem?_getD, h]
  rfl
theorem get_some {w : List (List Int)} {k : Nat} (h : k < w.length) : w[k]? = some (rw' w k) := by
  unfold rw'
  rw [List.getD_eq_getElem?_getD, List.getElem?_eq_getElem h]
  rfl
section
variable {w : List (List Int)} (hw : Web w)
include hw
theorem Web.rowOk {k : Nat} (h : k < w.length) : RowOk k (rw' w k) := hw.row k _ (get_some h)
/-- what lies in the closure's row k -/
theorem mem_ab {k : Nat} (hk : k < w.length) (x : Int) : x ∈ rw' (ab w) k ↔ x ∈ rw' w k ∨ ∃ near ∈ rw' w k, x ∈ rw' (ab w) near.toNat := by
  rw [rw_some (ab_get (get_some hk))]
  unfold clRow
  rw [sset_mem]
  unfold clIn
  rw [List.mem_append, List.mem_flatMap]
  refine or_congr Iff.rfl (exists_congr fun near => and_congr_right fun hn => ?_)
  have b := (hw.rowOk hk).bd near hn
  rw [ab_pre w k (by omega), rw_take (by omega)]
theorem ab_row : ∀ k, k < w.length → RowOk k (rw' (ab w) k) := by
  intro k
  induction k using Nat.strongRecOn with
  | ind k ih =>
    intro hk
    refine ⟨?_, fun a ha => ?_⟩
    · rw [rw_some (ab_get (get_some hk))]
      exact sset_lt _
    · rcases (mem_ab hw hk a).mp ha with h | ⟨near, hn, h⟩
      · exact (hw.rowOk hk).bd a h
      · have b := (hw.rowOk hk).bd near hn
        have := (ih near.toNat (by omega) (by omega)).bd a h
        omega
theorem Web.ab : Web (WM.ab w) := ⟨by rw [ab_len]; exact hw.len, fun k r h => by
  have hk : k < w.length := by
    by_cases q : k < w.length
    · exact q
    · rw [List.getElem?_eq_none (by rw [ab_len]; omega)] at h; cases h
  have := ab_row hw k hk
  rw [rw_some h] at this
  exact this⟩
/-- bounds for the list that is made a set -/
theorem clIn_len {k : Nat} (hk : k < w.length) : (clIn (WM.ab (w.take k)) (rw' w k)).length ≤ 3600 := by
  unfold clIn
  have r := (hw.rowOk hk).len
  have l := hw.len
  have gen : ∀ l : List Int, (∀ a ∈ l, (rw' (WM.ab (w.take k)) a.toNat).length ≤ 59) → (l.flatMap fun near => rw' (WM.ab (w.take k)) near.toNat).length ≤ 59 * l.length := by
    intro l
    induction l with
    | nil => intro _; exact Nat.zero_le _
    | cons a l ih =>
      intro h
      rw [List.flatMap_cons, List.length_append, List.length_cons]
      have := h a List.mem_cons_self
      have := ih fun b hb => h b (List.mem_cons_of_mem _ hb)
      omega
  have := gen (rw' w k) fun a ha => by
    have b := (hw.rowOk hk).bd a ha
    rw [ab_pre w k (by omega), rw_take (by omega)]
    have := (ab_row hw a.toNat (by omega)).len
    omega
  rw [List.length_append]
  have : (rw' w k).length ≤ 59 := by omega
  have : 59 * (rw' w k).length ≤ 59 * 59 := Nat.mul_le_mul_left _ this
  omega
theorem clRow_len {k : Nat} (hk : k < w.length) : (clRow (WM.ab (w.take k)) (rw' w k)).length ≤ 60 := by
  have := ab_get (get_some hk)
  have h := (ab_row hw k hk).len
  rw [rw_some this] at h
  have := hw.len
  omega
end
end WM
end

section
set_option Elab.async false
set_option linter.all false
set_option maxRecDepth 100000
set_option maxHeartbeats 2000000
/-! W02: the defs as IR, their walks. -/
namespace W02
open PySem PySem.Spec PyProof.Rows L2 PD
def top (i : Nat) : Stmt := PySem.Challenge.pw_deedwebs_k02_levels_and_slack_of_sixty_d.main.body.getD i (.Pass ⟨0, 0, 0, 0⟩)
/-- is_number: thing -/
def ir_is_number : FnRec := ⟨1, 1, [.ret (.and (.isi (.var 0) .int) (.not (.isi (.var 0) .bool)))]⟩
/-- is_below: thing, many -/
def ir_is_below : FnRec := ⟨2, 2, [.ret (.and (.call 0 [(.var 0)]) (.chain .le .lt (.cint 0) (.var 0) (.var 1)))]⟩
/-- is_row: thing, many -/
def ir_is_row : FnRec := ⟨2, 2, [.ret (.and (.isi (.var 0) .tuple) (.op2 .eq (.fn .len [(.var 0)]) (.var 1)))]⟩
/-- tuple_of: thing, part -/
def ir_tuple_of : FnRec := ⟨1, 2, [.ifs (.isiT (.var 0) [.list, .tuple]) [.ret (.fn .tuple [(.comp (.call 3 [(.var 1)]) (.name 1) (.seq (.var 0)) none [1])])] [],
    .ret (.var 0)]⟩
/-- set_of: some -/
def ir_set_of : FnRec := ⟨1, 1, [.ret (.fn .tuple [(.fn .sset [(.var 0)])])]⟩
/-- web_of: many, pairs, rows, deed, near, far, row -/
def ir_web_of : FnRec := ⟨2, 7, [.asg 2 (.comp (.lst []) (.name 3) (.rng1 (.var 0)) none [3]),
    .fors (.tup [4, 5]) (.seq (.var 1)) [.ifs (.or (.not (.call 1 [(.var 5), (.var 0)])) (.not (.call 1 [(.var 4), (.var 5)]))) [.never] [],
    .appix 2 (.var 5) 4],
    .ret (.fn .tuple [(.comp (.call 4 [(.var 6)]) (.name 6) (.seq (.var 2)) none [6])])]⟩
/-- pairs_of: web, deed, row, near -/
def ir_pairs_of : FnRec := ⟨1, 4, [.ret (.fn .sorted [(.comp2 (.tup [(.var 3), (.var 1)]) (.tup [1, 2]) (.enum (.var 0)) none (.name 3) (.seq (.var 2)) none [1, 2, 3] [3])])]⟩
/-- all_above: web, found, row, near, own -/
def ir_all_above : FnRec := ⟨1, 5, [.asg 1 (.lst []),
    .fors (.name 2) (.seq (.call 3 [(.var 0)])) [.app 1 (.call 4 [(.op2 .add (.fn .list [(.var 2)]) (.comp2 (.var 4) (.name 3) (.seq (.var 2)) none (.name 4) (.seq (.op2 .ix (.var 1) (.var 3))) none [3, 4] [4]))])],
    .ret (.var 1)]⟩
/-- all_below: web, above, deed, own -/
def ir_all_below : FnRec := ⟨1, 4, [.asg 1 (.call 7 [(.var 0)]),
    .ret (.comp (.fn .tuple [(.comp (.var 2) (.name 2) (.rng1 (.fn .len [(.var 1)])) (some (.op2 .isin (.var 3) (.op2 .ix (.var 1) (.var 2)))) [2])]) (.name 3) (.rng1 (.fn .len [(.var 1)])) none [3])]⟩
/-- turned: web, many, near, far -/
def ir_turned : FnRec := ⟨1, 4, [.asg 1 (.fn .len [(.var 0)]),
    .ret (.call 5 [(.var 1), (.comp (.tup [(.op2 .sub (.op2 .sub (.var 1) (.cint 1)) (.var 3)), (.op2 .sub (.op2 .sub (.var 1) (.cint 1)) (.var 2))]) (.tup [2, 3]) (.seq (.call 6 [(.call 3 [(.var 0)])])) none [2, 3])])]⟩
/-- work: web -/
def ir_work : FnRec := ⟨1, 1, [.ret (.fn .len [(.var 0)])]⟩
/-- levels: web, found, row, near -/
def ir_levels : FnRec := ⟨1, 4, [.asg 1 (.lst []),
    .fors (.name 2) (.seq (.call 3 [(.var 0)])) [.app 1 (.op2 .add (.cint 1) (.fn .max0 [(.comp (.op2 .ix (.var 1) (.var 3)) (.name 3) (.seq (.var 2)) none [3])]))],
    .ret (.var 1)]⟩
/-- heights: web -/
def ir_heights : FnRec := ⟨1, 1, [.ret (.rev (.call 11 [(.call 9 [(.var 0)])]))]⟩
/-- depth: web -/
def ir_depth : FnRec := ⟨1, 1, [.ret (.fn .max0 [(.call 11 [(.var 0)])])]⟩
/-- longest_path: web, found, own, here, deed, left, row -/
def ir_longest_path : FnRec := ⟨1, 7, [.pars false [1, 2] [(.lst []), (.call 12 [(.var 0)])],
    .asg 3 (.comp (.var 4) (.name 4) (.rng1 (.fn .len [(.var 0)])) (some (.and (.op2 .eq (.op2 .ix (.var 2) (.var 4)) (.call 13 [(.var 0)])) (.op2 .eq (.op2 .ix (.call 11 [(.var 0)]) (.var 4)) (.cint 1)))) [4]),
    .whl (.op2 .gt (.fn .len [(.var 3)]) (.cint 0)) [.app 1 (.op2 .ix (.var 3) (.cint 0)),
    .asg 5 (.op2 .sub (.op2 .ix (.var 2) (.op2 .ix (.var 3) (.cint 0))) (.cint 1)),
    .asg 3 (.comp (.var 4) (.tup [4, 6]) (.enum (.var 0)) (some (.and (.op2 .isin (.op2 .ix (.var 3) (.cint 0)) (.var 6)) (.op2 .eq (.op2 .ix (.var 2) (.var 4)) (.var 5)))) [4, 6])],
    .ret (.fn .tuple [(.var 1)])]⟩
/-- is_path: web, thing, deed, above, near, far -/
def ir_is_path : FnRec := ⟨2, 6, [.ifs (.or (.not (.isi (.var 1) .tuple)) (.not (.fn .all [(.comp (.call 1 [(.var 2), (.fn .len [(.var 0)])]) (.name 2) (.seq (.var 1)) none [2])]))) [.ret (.cbl false)] [],
    .asg 3 (.call 7 [(.var 0)]),
    .ret (.fn .all [(.comp (.op2 .isin (.var 4) (.op2 .ix (.var 3) (.var 5))) (.tup [4, 5]) (.zip (.var 1) (.slc (.var 1) (some (.cint 1)) none)) none [4, 5])])]⟩
/-- lots: web, found, deed, own -/
def ir_lots : FnRec := ⟨1, 4, [.asg 1 (.call 11 [(.var 0)]),
    .ret (.fn .tuple [(.comp (.fn .tuple [(.comp (.var 2) (.name 2) (.rng1 (.fn .len [(.var 0)])) (some (.op2 .eq (.op2 .ix (.var 1) (.var 2)) (.var 3))) [2])]) (.name 3) (.rng2 (.cint 1) (.op2 .add (.call 13 [(.var 0)]) (.cint 1))) none [3])])]⟩
/-- is_apart_set: web, thing, deed, above, one, other -/
def ir_is_apart_set : FnRec := ⟨2, 6, [.ifs (.or (.not (.isi (.var 1) .tuple)) (.not (.fn .all [(.comp (.call 1 [(.var 2), (.fn .len [(.var 0)])]) (.name 2) (.seq (.var 1)) none [2])]))) [.ret (.cbl false)] [],
    .asg 3 (.call 7 [(.var 0)]),
    .ret (.and (.op2 .eq (.var 1) (.call 4 [(.var 1)])) (.not (.fn .any [(.comp2 (.op2 .isin (.var 4) (.op2 .ix (.var 3) (.var 5))) (.name 4) (.seq (.var 1)) none (.name 5) (.seq (.var 1)) none [4, 5] [5])])))]⟩
/-- is_lots: web, thing, own, deed -/
def ir_is_lots : FnRec := ⟨2, 4, [.ifs (.or (.not (.isi (.var 1) .tuple)) (.not (.fn .all [(.comp (.call 17 [(.var 0), (.var 2)]) (.name 2) (.seq (.var 1)) none [2])]))) [.ret (.cbl false)] [],
    .ret (.op2 .eq (.fn .sorted [(.comp2 (.var 3) (.name 2) (.seq (.var 1)) none (.name 3) (.seq (.var 2)) none [2, 3] [3])]) (.lrng1 (.fn .len [(.var 0)])))]⟩
/-- slack: web, whole, near, far -/
def ir_slack : FnRec := ⟨1, 4, [.asg 1 (.call 13 [(.var 0)]),
    .ret (.comp (.op2 .sub (.op2 .sub (.op2 .add (.var 1) (.cint 1)) (.var 2)) (.var 3)) (.tup [2, 3]) (.zip (.call 11 [(.var 0)]) (.call 12 [(.var 0)])) none [2, 3])]⟩
/-- must_in_time: web, deed, own -/
def ir_must_in_time : FnRec := ⟨1, 3, [.ret (.fn .tuple [(.comp (.var 1) (.tup [1, 2]) (.enum (.call 19 [(.var 0)])) (some (.op2 .eq (.var 2) (.cint 0))) [1, 2])])]⟩
/-- share_of_work: web -/
def ir_share_of_work : FnRec := ⟨1, 1, [.ret (.tup [(.call 10 [(.var 0)]), (.call 13 [(.var 0)])])]⟩
/-- is_deep_paper: web, thing -/
def ir_is_deep_paper : FnRec := ⟨2, 2, [.ifs (.or (.not (.call 2 [(.var 1), (.cint 2)])) (.or (.not (.call 15 [(.var 0), (.op2 .ix (.var 1) (.cint 0))])) (.not (.call 18 [(.var 0), (.op2 .ix (.var 1) (.cint 1))])))) [.ret (.cbl false)] [],
    .ret (.op2 .eq (.fn .len [(.op2 .ix (.var 1) (.cint 0))]) (.fn .len [(.op2 .ix (.var 1) (.cint 1))]))]⟩
/-- deep_paper: web -/
def ir_deep_paper : FnRec := ⟨1, 1, [.ret (.tup [(.call 14 [(.var 0)]), (.call 16 [(.var 0)])])]⟩
/-- reach: web, near, far -/
def ir_reach : FnRec := ⟨1, 3, [.ret (.comp (.tup [(.fn .len [(.var 1)]), (.fn .len [(.var 2)])]) (.tup [1, 2]) (.zip (.call 7 [(.var 0)]) (.call 8 [(.var 0)])) none [1, 2])]⟩
/-- _law_box: script, k, own -/
def ir__law_box : FnRec := ⟨2, 3, [.asg 2 (.ite (.op2 .lt (.var 1) (.fn .len [(.var 0)])) (.op2 .ix (.var 0) (.var 1)) (.cint 0)),
    .ret (.lst [(.op2 .mul (.fn .abs [(.var 2)]) (.fn .int [(.op2 .ge (.fn .abs [(.var 2)]) (.op2 .pow (.cint 10) (.cint 18)))])), (.op2 .add (.op2 .add (.op2 .mod (.fn .int [(.var 2)]) (.cint 2305843009213693951)) (.op2 .mul (.cint 39449) (.var 1))) (.cint 2321926)), (.cint 0)])]⟩
/-- _law_take: urn, low, drawn, once, far, twice -/
def ir__law_take : FnRec := ⟨2, 6, [.ifs (.op2 .gt (.op2 .ix (.var 0) (.cint 0)) (.cint 0)) [.asg 2 (.op2 .mod (.fn .int [(.op2 .ix (.var 0) (.cint 0))]) (.var 1)),
    .setix 0 (.cint 0) (.op2 .fdiv (.op2 .ix (.var 0) (.cint 0)) (.var 1)),
    .ret (.var 2)] [],
    .setix 0 (.cint 2) (.op2 .add (.op2 .ix (.var 0) (.cint 2)) (.cint 1)),
    .asg 3 (.op2 .mod (.fn .int [(.op2 .mul (.op2 .add (.op2 .ix (.var 0) (.cint 1)) (.op2 .mul (.cint 48271) (.op2 .ix (.var 0) (.cint 2)))) (.op2 .add (.cint 39373) (.op2 .ix (.var 0) (.cint 2))))]) (.cint 2147483647)),
    .asg 4 (.op2 .add (.op2 .mod (.fn .int [(.var 3)]) (.cint 40009)) (.cint 7)),
    .asg 5 (.op2 .mod (.fn .int [(.op2 .mul (.op2 .add (.op2 .add (.var 3) (.op2 .ix (.var 0) (.cint 2))) (.op2 .fdiv (.op2 .ix (.var 0) (.cint 1)) (.cint 1000003))) (.var 4))]) (.cint 2147483629)),
    .ret (.op2 .mod (.fn .int [(.op2 .fdiv (.op2 .mod (.fn .int [(.op2 .add (.op2 .mul (.var 5) (.cint 48271)) (.var 3))]) (.cint 2147483587)) (.cint 64))]) (.var 1))]⟩
/-- _law_cells: script, roof, found, k, own, at -/
def ir__law_cells : FnRec := ⟨2, 6, [.asg 2 (.or (.fn .list [(.slc (.var 0) none (some (.var 1)))]) (.lst [(.cint 0)])),
    .fors (.tup [3, 4]) (.enum (.slc (.var 0) (some (.var 1)) (some (.cint 63)))) [.asg 5 (.op2 .mod (.fn .int [(.var 3)]) (.var 1)),
    .setix 2 (.var 5) (.op2 .add (.op2 .ix (.var 2) (.var 5)) (.op2 .mul (.var 4) (.op2 .add (.var 3) (.cint 2))))],
    .ret (.var 2)]⟩
/-- _law_of: urn, some -/
def ir__law_of : FnRec := ⟨2, 2, [.ret (.op2 .ix (.var 1) (.call 26 [(.var 0), (.fn .len [(.var 1)])]))]⟩
/-- _law_same: mine, due, near, far -/
def ir__law_same : FnRec := ⟨2, 4, [.ifs (.isiT (.var 1) [.list, .tuple]) [.ifs (.or (.op2 .ne (.isi (.var 0) .list) (.isi (.var 1) .list)) (.op2 .ne (.isi (.var 0) .tuple) (.isi (.var 1) .tuple))) [.ret (.cbl false)] [],
    .ret (.and (.op2 .eq (.fn .len [(.var 0)]) (.fn .len [(.var 1)])) (.fn .all [(.comp (.call 29 [(.var 2), (.var 3)]) (.tup [2, 3]) (.zip (.var 0) (.var 1)) none [2, 3])]))] [],
    .ifs (.or (.op2 .isN (.var 1) .cnon) (.isiT (.var 1) [.bool, .str])) [.ret (.and (.op2 .eq (.var 0) (.var 1)) (.and (.op2 .eq (.isi (.var 0) .bool) (.isi (.var 1) .bool)) (.op2 .eq (.op2 .isN (.var 0) .cnon) (.op2 .isN (.var 1) .cnon))))] [],
    .ret (.and (.isi (.var 0) .int) (.and (.not (.isi (.var 0) .bool)) (.op2 .eq (.var 0) (.var 1))))]⟩
/-- _law_flat: rows, found, row -/
def ir__law_flat : FnRec := ⟨1, 3, [.asg 1 (.lst []),
    .fors (.name 2) (.seq (.var 0)) [.asg 1 (.op2 .add (.var 1) (.fn .list [(.var 2)]))],
    .ret (.var 1)]⟩
/-- _law_set: things -/
def ir__law_set : FnRec := ⟨1, 1, [.ret (.fn .tuple [(.fn .sset [(.fn .list [(.var 0)])])])]⟩
/-- _law_above: web, found, row, near -/
def ir__law_above : FnRec := ⟨1, 4, [.asg 1 (.lst []),
    .fors (.name 2) (.seq (.var 0)) [.app 1 (.call 31 [(.op2 .add (.fn .list [(.var 2)]) (.call 30 [(.comp (.op2 .ix (.var 1) (.var 3)) (.name 3) (.seq (.var 2)) none [3])]))])],
    .ret (.var 1)]⟩
/-- _law_some: urn, things, many, left, found, lap, own -/
def ir__law_some : FnRec := ⟨3, 7, [.pars false [3, 4] [(.fn .list [(.var 1)]), (.lst [])],
    .fors (.name 5) (.rng1 (.fn .min2 [(.var 2), (.fn .len [(.var 3)])])) [.app 4 (.call 28 [(.var 0), (.var 3)]),
    .asg 3 (.comp (.var 6) (.name 6) (.seq (.var 3)) (some (.op2 .ne (.var 6) (.op2 .ix (.var 4) (.op1 .neg (.cint 1))))) [6])],
    .ret (.var 4)]⟩
/-- _law_mixed: urn, matter, rows, own -/
def ir__law_mixed : FnRec := ⟨2, 4, [.ifs (.not (.isi (.var 1) .tuple)) [.ret (.var 1)] [],
    .asg 2 (.comp (.call 34 [(.var 0), (.var 3)]) (.name 3) (.seq (.var 1)) none [3]),
    .ret (.ite (.op2 .eq (.call 26 [(.var 0), (.cint 3)]) (.cint 0)) (.var 2) (.fn .tuple [(.var 2)]))]⟩
/-- _law_tall: urn, many, web, rows, deed, row, near -/
def ir__law_tall : FnRec := ⟨2, 7, [.pars true [2, 3] [(.lst []), (.op2 .add (.cint 1) (.call 26 [(.var 0), (.cint 6)]))],
    .fors (.name 4) (.rng1 (.var 1)) [.asg 5 (.ite (.and (.op2 .ge (.var 4) (.var 3)) (.op2 .gt (.call 26 [(.var 0), (.cint 8)]) (.cint 0))) (.lst [(.op2 .sub (.var 4) (.var 3))]) (.lst [])),
    .asg 5 (.op2 .add (.var 5) (.comp (.var 6) (.name 6) (.rng2 (.fn .max2 [(.cint 0), (.op2 .sub (.var 4) (.op2 .mul (.cint 2) (.var 3)))]) (.var 4)) (some (.op2 .eq (.call 26 [(.var 0), (.cint 9)]) (.cint 0))) [6])),
    .app 2 (.call 31 [(.var 5)])],
    .ret (.fn .tuple [(.var 2)])]⟩
/-- _law_best_path: web, low, deep, high, deed, far, path, level, fits -/
def ir__law_best_path : FnRec := ⟨2, 9, [.asg 2 (.fn .max [(.op2 .add (.var 1) (.lst [(.cint 0)]))]),
    .asg 3 (.op2 .mul (.lst [(.cint 1)]) (.fn .len [(.var 0)])),
    .fors (.name 4) (.rng3 (.op2 .sub (.fn .len [(.var 0)]) (.cint 1)) (.op1 .neg (.cint 1)) (.op1 .neg (.cint 1))) [.setix 3 (.var 4) (.op2 .add (.cint 1) (.fn .max [(.op2 .add (.comp (.op2 .ix (.var 3) (.var 5)) (.name 5) (.rng1 (.fn .len [(.var 0)])) (some (.op2 .isin (.var 4) (.op2 .ix (.var 0) (.var 5)))) [5]) (.lst [(.cint 0)]))]))],
    .asg 6 (.tup []),
    .fors (.name 7) (.rng2 (.cint 1) (.op2 .add (.var 2) (.cint 1))) [.asg 8 (.comp (.var 4) (.name 4) (.rng1 (.fn .len [(.var 0)])) (some (.and (.op2 .eq (.op2 .ix (.var 1) (.var 4)) (.var 7)) (.and (.op2 .eq (.op2 .ix (.var 3) (.var 4)) (.op2 .sub (.op2 .add (.var 2) (.cint 1)) (.var 7))) (.or (.op2 .eq (.var 6) (.tup [])) (.op2 .isin (.op2 .ix (.var 6) (.op1 .neg (.cint 1))) (.op2 .ix (.var 0) (.var 4))))))) [4]),
    .asg 6 (.op2 .add (.var 6) (.tup [(.op2 .ix (.var 8) (.cint 0))]))],
    .ret (.tup [(.var 6), (.var 3)])]⟩
/-- law: script, urn, many, web, over, low, row, near, deep, soft, path, high, free, deed, rows, level, got, due, late, own, place, moved, far, at, lot, good, twice, lap, some, apart, other -/
def ir_law : FnRec := ⟨1, 31, [.asg 1 (.call 25 [(.call 27 [(.var 0), (.cint 1)]), (.cint 0)]),
    .asg 2 (.call 28 [(.var 1), (.lst [(.cint 60), (.cint 58), (.cint 37), (.cint 19), (.cint 3), (.cint 1), (.cint 0)])]),
    .asg 3 (.call 35 [(.var 1), (.var 2)]),
    .pars false [4, 5] [(.call 32 [(.var 3)]), (.lst [])],
    .fors (.name 6) (.seq (.var 3)) [.app 5 (.op2 .add (.cint 1) (.fn .max [(.op2 .add (.comp (.op2 .ix (.var 5) (.var 7)) (.name 7) (.seq (.var 6)) none [7]) (.lst [(.cint 0)]))]))],
    .pars false [8, 9] [(.fn .max [(.op2 .add (.var 5) (.lst [(.cint 0)]))]), (.call 34 [(.var 1), (.var 3)])],
    .unp [10, 11] (.call 36 [(.var 3), (.var 5)]),
    .asg 12 (.comp (.op2 .sub (.op2 .sub (.op2 .add (.var 8) (.cint 1)) (.op2 .ix (.var 5) (.var 13))) (.op2 .ix (.var 11) (.var 13))) (.name 13) (.rng1 (.var 2)) none [13]),
    .asg 14 (.fn .tuple [(.comp (.fn .tuple [(.comp (.var 13) (.name 13) (.rng1 (.var 2)) (some (.op2 .eq (.op2 .ix (.var 5) (.var 13)) (.var 15))) [13])]) (.name 15) (.rng2 (.cint 1) (.op2 .add (.var 8) (.cint 1))) none [15])]),
    .asg 16 (.lst [(.call 10 [(.var 9)]), (.call 13 [(.var 9)]), (.call 11 [(.var 9)]), (.call 12 [(.var 9)]), (.call 19 [(.var 9)]), (.call 20 [(.var 9)]), (.call 14 [(.var 9)]), (.call 16 [(.var 9)]), (.call 21 [(.var 9)]), (.call 23 [(.var 9)])]),
    .asg 17 (.lst [(.var 2), (.var 8), (.var 5), (.var 11), (.var 12), (.fn .tuple [(.comp (.var 13) (.name 13) (.rng1 (.var 2)) (some (.op2 .eq (.op2 .ix (.var 12) (.var 13)) (.cint 0))) [13])]), (.var 10), (.var 14), (.tup [(.var 2), (.var 8)]), (.tup [(.var 10), (.var 14)])]),
    .ifs (.not (.call 29 [(.var 16), (.var 17)])) [.ret (.cbl false)] [],
    .ifs (.not (.call 29 [(.call 24 [(.var 9)]), (.comp (.tup [(.fn .len [(.op2 .ix (.var 4) (.var 13))]), (.fn .len [(.comp (.cint 1) (.name 6) (.seq (.var 4)) (some (.op2 .isin (.var 13) (.var 6))) [6])])]) (.name 13) (.rng1 (.var 2)) none [13])])) [.ret (.cbl false)] [],
    .ifs (.op2 .eq (.var 2) (.cint 0)) [.ret (.call 29 [(.lst [(.call 22 [(.tup []), (.tup [(.tup []), (.tup [])])]), (.call 22 [(.tup []), (.tup [(.tup []), (.tup [(.tup [])])])]), (.call 15 [(.tup []), (.tup [])]), (.call 18 [(.tup []), (.tup [(.tup []), (.tup [])])])]), (.lst [(.cbl true), (.cbl false), (.cbl true), (.cbl true)])])] [],
    .asg 18 (.fn .tuple [(.comp (.fn .tuple [(.comp (.var 13) (.name 13) (.rng1 (.var 2)) (some (.op2 .eq (.op2 .ix (.var 11) (.var 13)) (.op2 .sub (.var 8) (.var 15)))) [13])]) (.name 15) (.rng1 (.var 8)) none [15])]),
    .fors (.name 19) (.seq (.tup [(.var 14), (.var 18)])) [.ifs (.not (.call 29 [(.lst [(.call 18 [(.var 9), (.var 19)]), (.call 22 [(.var 9), (.tup [(.var 10), (.var 19)])]), (.call 22 [(.var 9), (.lst [(.var 10), (.var 19)])]), (.call 22 [(.var 9), (.tup [(.slc (.var 10) (some (.cint 1)) none), (.var 19)])])]), (.lst [(.cbl true), (.cbl true), (.cbl false), (.cbl false)])])) [.ret (.cbl false)] [],
    .pars false [13, 20] [(.call 26 [(.var 1), (.var 2)]), (.call 26 [(.var 1), (.var 8)])],
    .asg 21 (.fn .tuple [(.comp (.call 31 [(.op2 .add (.comp (.var 22) (.name 22) (.seq (.var 24)) (some (.op2 .ne (.var 22) (.var 13))) [22]) (.ite (.op2 .eq (.var 23) (.var 20)) (.lst [(.var 13)]) (.lst [])))]) (.tup [23, 24]) (.enum (.var 19)) none [23, 24])]),
    .asg 25 (.op2 .eq (.comp (.cint 1) (.name 24) (.seq (.var 21)) (some (.op2 .ne (.comp (.cint 1) (.name 22) (.seq (.var 24)) (some (.op2 .ne (.comp (.var 7) (.name 7) (.seq (.var 24)) (some (.op2 .isin (.var 7) (.op2 .ix (.var 4) (.var 22)))) [7]) (.lst []))) [22]) (.lst []))) [24]) (.lst [])),
    .ifs (.not (.call 29 [(.lst [(.call 18 [(.var 9), (.var 21)]), (.call 22 [(.var 9), (.tup [(.var 10), (.var 21)])])]), (.lst [(.var 25), (.var 25)])])) [.ret (.cbl false)] [],
    .asg 26 (.op2 .add (.op2 .add (.slc (.var 19) none (some (.var 20))) (.tup [(.call 31 [(.op2 .add (.op2 .ix (.var 19) (.var 20)) (.tup [(.var 13)]))])])) (.slc (.var 19) (some (.op2 .add (.var 20) (.cint 1))) none)),
    .ifs (.not (.call 29 [(.call 18 [(.var 9), (.var 26)]), (.op2 .isin (.var 13) (.op2 .ix (.var 19) (.var 20)))])) [.ret (.cbl false)] []],
    .fors (.name 27) (.rng1 (.cint 5)) [.asg 28 (.call 31 [(.call 33 [(.var 1), (.lrng1 (.var 2)), (.op2 .add (.cint 1) (.call 26 [(.var 1), (.cint 4)]))])]),
    .asg 29 (.op2 .eq (.comp (.var 22) (.name 22) (.seq (.var 28)) (some (.op2 .ne (.comp (.var 7) (.name 7) (.seq (.var 28)) (some (.op2 .isin (.var 7) (.op2 .ix (.var 4) (.var 22)))) [7]) (.lst []))) [22]) (.lst [])),
    .asg 6 (.op2 .eq (.comp (.cint 1) (.tup [7, 22]) (.zip (.var 28) (.slc (.var 28) (some (.cint 1)) none)) (some (.op2 .notin (.var 7) (.op2 .ix (.var 4) (.var 22)))) [7, 22]) (.lst [])),
    .asg 16 (.lst [(.call 17 [(.var 9), (.var 28)]), (.call 15 [(.var 9), (.var 28)]), (.call 17 [(.var 9), (.fn .revT [(.var 28)])]), (.call 15 [(.var 9), (.op2 .add (.var 28) (.slc (.var 28) (some (.op1 .neg (.cint 1))) none))]), (.call 15 [(.var 9), (.fn .evn [(.var 10)])])]),
    .ifs (.not (.call 29 [(.var 16), (.lst [(.var 29), (.var 6), (.and (.var 29) (.op2 .eq (.fn .len [(.var 28)]) (.cint 1))), (.cbl false), (.cbl true)])])) [.ret (.cbl false)] []],
    .asg 30 (.ite (.op2 .gt (.var 2) (.cint 1)) (.tup [(.cbl true)]) (.tup [(.cbl false)])),
    .ret (.call 29 [(.lst [(.call 15 [(.var 9), (.var 30)]), (.call 17 [(.var 9), (.var 30)]), (.call 18 [(.var 9), (.op2 .add (.var 14) (.tup [(.tup [])]))])]), (.lst [(.cbl false), (.cbl false), (.cbl true)])])]⟩
def tab : List FnRec := [ir_is_number, ir_is_below, ir_is_row, ir_tuple_of, ir_set_of, ir_web_of, ir_pairs_of, ir_all_above, ir_all_below, ir_turned, ir_work, ir_levels, ir_heights, ir_depth, ir_longest_path, ir_is_path, ir_lots, ir_is_apart_set, ir_is_lots, ir_slack, ir_must_in_time, ir_share_of_work, ir_is_deep_paper, ir_deep_paper, ir_reach, ir__law_box, ir__law_take, ir__law_cells, ir__law_of, ir__law_same, ir__law_flat, ir__law_set, ir__law_above, ir__law_some, ir__law_mixed, ir__law_tall, ir__law_best_path, ir_law]
abbrev st_is_number : Stmt := top 1
abbrev N_is_number : List Str := ["thing"]
abbrev P_is_number : List Str := ["thing"]
theorem sc_is_number : FnScope N_is_number P_is_number (defScope st_is_number) := ⟨rfl, rfl, rfl, by decide +kernel, rfl, by decide +kernel, by decide +kernel⟩
abbrev st_is_below : Stmt := top 2
abbrev N_is_below : List Str := ["thing", "many"]
abbrev P_is_below : List Str := ["thing", "many"]
theorem sc_is_below : FnScope N_is_below P_is_below (defScope st_is_below) := ⟨rfl, rfl, rfl, by decide +kernel, rfl, by decide +kernel, by decide +kernel⟩
abbrev st_is_row : Stmt := top 3
abbrev N_is_row : List Str := ["thing", "many"]
abbrev P_is_row : List Str := ["thing", "many"]
theorem sc_is_row : FnScope N_is_row P_is_row (defScope st_is_row) := ⟨rfl, rfl, rfl, by decide +kernel, rfl, by decide +kernel, by decide +kernel⟩
abbrev st_tuple_of : Stmt := top 4
abbrev N_tuple_of : List Str := ["thing", "part"]
abbrev P_tuple_of : List Str := ["thing"]
theorem sc_tuple_of : FnScope N_tuple_of P_tuple_of (defScope st_tuple_of) := ⟨rfl, rfl, rfl, by decide +kernel, rfl, by decide +kernel, by decide +kernel⟩
abbrev st_set_of : Stmt := top 5
abbrev N_set_of : List Str := ["some"]
abbrev P_set_of : List Str := ["some"]
theorem sc_set_of : FnScope N_set_of P_set_of (defScope st_set_of) := ⟨rfl, rfl, rfl, by decide +kernel, rfl, by decide +kernel, by decide +kernel⟩
abbrev st_web_of : Stmt := top 9
abbrev N_web_of : List Str := ["many", "pairs", "rows", "deed", "near", "far", "row"]
abbrev P_web_of : List Str := ["many", "pairs"]
theorem sc_web_of : FnScope N_web_of P_web_of (defScope st_web_of) := ⟨rfl, rfl, rfl, by decide +kernel, rfl, by decide +kernel, by decide +kernel⟩
abbrev st_pairs_of : Stmt := top 10
abbrev N_pairs_of : List Str := ["web", "deed", "row", "near"]
abbrev P_pairs_of : List Str := ["web"]
theorem sc_pairs_of : FnScope N_pairs_of P_pairs_of (defScope st_pairs_of) := ⟨rfl, rfl, rfl, by decide +kernel, rfl, by decide +kernel, by decide +kernel⟩
abbrev st_all_above : Stmt := top 11
abbrev N_all_above : List Str := ["web", "found", "row", "near", "own"]
abbrev P_all_above : List Str := ["web"]
theorem sc_all_above : FnScope N_all_above P_all_above (defScope st_all_above) := ⟨rfl, rfl, rfl, by decide +kernel, rfl, by decide +kernel, by decide +kernel⟩
abbrev st_all_below : Stmt := top 12
abbrev N_all_below : List Str := ["web", "above", "deed", "own"]
abbrev P_all_below : List Str := ["web"]
theorem sc_all_below : FnScope N_all_below P_all_below (defScope st_all_below) := ⟨rfl, rfl, rfl, by decide +kernel, rfl, by decide +kernel, by decide +kernel⟩
abbrev st_turned : Stmt := top 13
abbrev N_turned : List Str := ["web", "many", "near", "far"]
abbrev P_turned : List Str := ["web"]
theorem sc_turned : FnScope N_turned P_turned (defScope st_turned) := ⟨rfl, rfl, rfl, by decide +kernel, rfl, by decide +kernel, by decide +kernel⟩
abbrev st_work : Stmt := top 15
abbrev N_work : List Str := ["web"]
abbrev P_work : List Str := ["web"]
theorem sc_work : FnScope N_work P_work (defScope st_work) := ⟨rfl, rfl, rfl, by decide +kernel, rfl, by decide +kernel, by decide +kernel⟩
abbrev st_levels : Stmt := top 16
abbrev N_levels : List Str := ["web", "found", "row", "near"]
abbrev P_levels : List Str := ["web"]
theorem sc_levels : FnScope N_levels P_levels (defScope st_levels) := ⟨rfl, rfl, rfl, by decide +kernel, rfl, by decide +kernel, by decide +kernel⟩
abbrev st_heights : Stmt := top 17
abbrev N_heights : List Str := ["web"]
abbrev P_heights : List Str := ["web"]
theorem sc_heights : FnScope N_heights P_heights (defScope st_heights) := ⟨rfl, rfl, rfl, by decide +kernel, rfl, by decide +kernel, by decide +kernel⟩
abbrev st_depth : Stmt := top 18
abbrev N_depth : List Str := ["web"]
abbrev P_depth : List Str := ["web"]
theorem sc_depth : FnScope N_depth P_depth (defScope st_depth) := ⟨rfl, rfl, rfl, by decide +kernel, rfl, by decide +kernel, by decide +kernel⟩
abbrev st_longest_path : Stmt := top 19
abbrev N_longest_path : List Str := ["web", "found", "own", "here", "deed", "left", "row"]
abbrev P_longest_path : List Str := ["web"]
theorem sc_longest_path : FnScope N_longest_path P_longest_path (defScope st_longest_path) := ⟨rfl, rfl, rfl, by decide +kernel, rfl, by decide +kernel, by decide +kernel⟩
abbrev st_is_path : Stmt := top 20
abbrev N_is_path : List Str := ["web", "thing", "deed", "above", "near", "far"]
abbrev P_is_path : List Str := ["web", "thing"]
theorem sc_is_path : FnScope N_is_path P_is_path (defScope st_is_path) := ⟨rfl, rfl, rfl, by decide +kernel, rfl, by decide +kernel, by decide +kernel⟩
abbrev st_lots : Stmt := top 21
abbrev N_lots : List Str := ["web", "found", "deed", "own"]
abbrev P_lots : List Str := ["web"]
theorem sc_lots : FnScope N_lots P_lots (defScope st_lots) := ⟨rfl, rfl, rfl, by decide +kernel, rfl, by decide +kernel, by decide +kernel⟩
abbrev st_is_apart_set : Stmt := top 22
abbrev N_is_apart_set : List Str := ["web", "thing", "deed", "above", "one", "other"]
abbrev P_is_apart_set : List Str := ["web", "thing"]
theorem sc_is_apart_set : FnScope N_is_apart_set P_is_apart_set (defScope st_is_apart_set) := ⟨rfl, rfl, rfl, by decide +kernel, rfl, by decide +kernel, by decide +kernel⟩
abbrev st_is_lots : Stmt := top 23
abbrev N_is_lots : List Str := ["web", "thing", "own", "deed"]
abbrev P_is_lots : List Str := ["web", "thing"]
theorem sc_is_lots : FnScope N_is_lots P_is_lots (defScope st_is_lots) := ⟨rfl, rfl, rfl, by decide +kernel, rfl, by decide +kernel, by decide +kernel⟩
abbrev st_slack : Stmt := top 24
abbrev N_slack : List Str := ["web", "whole", "near", "far"]
abbrev P_slack : List Str := ["web"]
theorem sc_slack : FnScope N_slack P_slack (defScope st_slack) := ⟨rfl, rfl, rfl, by decide +kernel, rfl, by decide +kernel, by decide +kernel⟩
abbrev st_must_in_time : Stmt := top 25
abbrev N_must_in_time : List Str := ["web", "deed", "own"]
abbrev P_must_in_time : List Str := ["web"]
theorem sc_must_in_time : FnScope N_must_in_time P_must_in_time (defScope st_must_in_time) := ⟨rfl, rfl, rfl, by decide +kernel, rfl, by decide +kernel, by decide +kernel⟩
abbrev st_share_of_work : Stmt := top 26
abbrev N_share_of_work : List Str := ["web"]
abbrev P_share_of_work : List Str := ["web"]
theorem sc_share_of_work : FnScope N_share_of_work P_share_of_work (defScope st_share_of_work) := ⟨rfl, rfl, rfl, by decide +kernel, rfl, by decide +kernel, by decide +kernel⟩
abbrev st_is_deep_paper : Stmt := top 27
abbrev N_is_deep_paper : List Str := ["web", "thing"]
abbrev P_is_deep_paper : List Str := ["web", "thing"]
theorem sc_is_deep_paper : FnScope N_is_deep_paper P_is_deep_paper (defScope st_is_deep_paper) := ⟨rfl, rfl, rfl, by decide +kernel, rfl, by decide +kernel, by decide +kernel⟩
abbrev st_deep_paper : Stmt := top 28
abbrev N_deep_paper : List Str := ["web"]
abbrev P_deep_paper : List Str := ["web"]
theorem sc_deep_paper : FnScope N_deep_paper P_deep_paper (defScope st_deep_paper) := ⟨rfl, rfl, rfl, by decide +kernel, rfl, by decide +kernel, by decide +kernel⟩
abbrev st_reach : Stmt := top 29
abbrev N_reach : List Str := ["web", "near", "far"]
abbrev P_reach : List Str := ["web"]
theorem sc_reach : FnScope N_reach P_reach (defScope st_reach) := ⟨rfl, rfl, rfl, by decide +kernel, rfl, by decide +kernel, by decide +kernel⟩
abbrev st__law_box : Stmt := top 31
abbrev N__law_box : List Str := ["script", "k", "own"]
abbrev P__law_box : List Str := ["script", "k"]
theorem sc__law_box : FnScope N__law_box P__law_box (defScope st__law_box) := ⟨rfl, rfl, rfl, by decide +kernel, rfl, by decide +kernel, by decide +kernel⟩
abbrev st__law_take : Stmt := top 32
abbrev N__law_take : List Str := ["urn", "low", "drawn", "once", "far", "twice"]
abbrev P__law_take : List Str := ["urn", "low"]
theorem sc__law_take : FnScope N__law_take P__law_take (defScope st__law_take) := ⟨rfl, rfl, rfl, by decide +kernel, rfl, by decide +kernel, by decide +kernel⟩
abbrev st__law_cells : Stmt := top 33
abbrev N__law_cells : List Str := ["script", "roof", "found", "k", "own", "at"]
abbrev P__law_cells : List Str := ["script", "roof"]
theorem sc__law_cells : FnScope N__law_cells P__law_cells (defScope st__law_cells) := ⟨rfl, rfl, rfl, by decide +kernel, rfl, by decide +kernel, by decide +kernel⟩
abbrev st__law_of : Stmt := top 34
abbrev N__law_of : List Str := ["urn", "some"]
abbrev P__law_of : List Str := ["urn", "some"]
theorem sc__law_of : FnScope N__law_of P__law_of (defScope st__law_of) := ⟨rfl, rfl, rfl, by decide +kernel, rfl, by decide +kernel, by decide +kernel⟩
abbrev st__law_same : Stmt := top 35
abbrev N__law_same : List Str := ["mine", "due", "near", "far"]
abbrev P__law_same : List Str := ["mine", "due"]
theorem sc__law_same : FnScope N__law_same P__law_same (defScope st__law_same) := ⟨rfl, rfl, rfl, by decide +kernel, rfl, by decide +kernel, by decide +kernel⟩
abbrev st__law_flat : Stmt := top 36
abbrev N__law_flat : List Str := ["rows", "found", "row"]
abbrev P__law_flat : List Str := ["rows"]
theorem sc__law_flat : FnScope N__law_flat P__law_flat (defScope st__law_flat) := ⟨rfl, rfl, rfl, by decide +kernel, rfl, by decide +kernel, by decide +kernel⟩
abbrev st__law_set : Stmt := top 37
abbrev N__law_set : List Str := ["things"]
abbrev P__law_set : List Str := ["things"]
theorem sc__law_set : FnScope N__law_set P__law_set (defScope st__law_set) := ⟨rfl, rfl, rfl, by decide +kernel, rfl, by decide +kernel, by decide +kernel⟩
abbrev st__law_above : Stmt := top 38
abbrev N__law_above : List Str := ["web", "found", "row", "near"]
abbrev P__law_above : List Str := ["web"]
theorem sc__law_above : FnScope N__law_above P__law_above (defScope st__law_above) := ⟨rfl, rfl, rfl, by decide +kernel, rfl, by decide +kernel, by decide +kernel⟩
abbrev st__law_some : Stmt := top 39
abbrev N__law_some : List Str := ["urn", "things", "many", "left", "found", "lap", "own"]
abbrev P__law_some : List Str := ["urn", "things", "many"]
theorem sc__law_some : FnScope N__law_some P__law_some (defScope st__law_some) := ⟨rfl, rfl, rfl, by decide +kernel, rfl, by decide +kernel, by decide +kernel⟩
abbrev st__law_mixed : Stmt := top 40
abbrev N__law_mixed : List Str := ["urn", "matter", "rows", "own"]
abbrev P__law_mixed : List Str := ["urn", "matter"]
theorem sc__law_mixed : FnScope N__law_mixed P__law_mixed (defScope st__law_mixed) := ⟨rfl, rfl, rfl, by decide +kernel, rfl, by decide +kernel, by decide +kernel⟩
abbrev st__law_tall : Stmt := top 41
abbrev N__law_tall : List Str := ["urn", "many", "web", "rows", "deed", "row", "near"]
abbrev P__law_tall : List Str := ["urn", "many"]
theorem sc__law_tall : FnScope N__law_tall P__law_tall (defScope st__law_tall) := ⟨rfl, rfl, rfl, by decide +kernel, rfl, by decide +kernel, by decide +kernel⟩
abbrev st__law_best_path : Stmt := top 42
abbrev N__law_best_path : List Str := ["web", "low", "deep", "high", "deed", "far", "path", "level", "fits"]
abbrev P__law_best_path : List Str := ["web", "low"]
theorem sc__law_best_path : FnScope N__law_best_path P__law_best_path (defScope st__law_best_path) := ⟨rfl, rfl, rfl, by decide +kernel, rfl, by decide +kernel, by decide +kernel⟩
abbrev st_law : Stmt := top 43
abbrev N_law : List Str := ["script", "urn", "many", "web", "over", "low", "row", "near", "deep", "soft", "path", "high", "free", "deed", "rows", "level", "got", "due", "late", "own", "place", "moved", "far", "at", "lot", "good", "twice", "lap", "some", "apart", "other"]
abbrev P_law : List Str := ["script"]
theorem sc_law : FnScope N_law P_law (defScope st_law) := ⟨rfl, rfl, rfl, by decide +kernel, rfl, by decide +kernel, by decide +kernel⟩
section
variable {P : Program} {w : World} {K : PySem.W.Frag} {mg : Str → Option Value} {base : Heap} {k : Nat} {sp : Nat → Sp}
theorem w_is_number {f : Addr} {cdv : Value} {A : Around} {outer : List PySem.Env} {s : Shared} {H : Hp} {Ex : XK} (hr : Room k (A.deeper (envOfC "is_number" (defScope st_is_number) s.heap.objs.size f cdv))) (E : En (cxOf CX0 P w K mg base N_is_number "is_number" (defScope st_is_number) f cdv A outer s H Ex).nox)  :
    PSs (cxOf CX0 P w K mg base N_is_number "is_number" (defScope st_is_number) f cdv A outer s H Ex).nox (defBody st_is_number) (trSs (cfg (cxOf CX0 P w K mg base N_is_number "is_number" (defScope st_is_number) f cdv A outer s H Ex).nox sp) ir_is_number.body) :=
  (qs_cons (q_ret (px_b (pb_and (px_isi (y := .int) E PyProof.Rows.boot_int (px_var 0) E.int) (pb_and1 (px_not (px_isi (y := .bool) E PD.boot_bool (px_var 0) E.bool))))))
  qs_nil)
theorem w_is_below {f : Addr} {cdv : Value} {A : Around} {outer : List PySem.Env} {s : Shared} {H : Hp} {Ex : XK} (hr : Room k (A.deeper (envOfC "is_below" (defScope st_is_below) s.heap.objs.size f cdv))) (E : En (cxOf CX0 P w K mg base N_is_below "is_below" (defScope st_is_below) f cdv A outer s H Ex).nox) {f_is_number : Addr} {fd_is_number : FuncData} (F_is_number : Fc5 P w K mg base k sp 0 "is_number" f_is_number fd_is_number P_is_number) :
    PSs (cxOf CX0 P w K mg base N_is_below "is_below" (defScope st_is_below) f cdv A outer s H Ex).nox (defBody st_is_below) (trSs (cfg (cxOf CX0 P w K mg base N_is_below "is_below" (defScope st_is_below) f cdv A outer s H Ex).nox sp) ir_is_below.body) :=
  (qs_cons (q_ret (px_b (pb_and (px_call F_is_number hr (pas_cons (px_var 0) pas_nil)) (pb_and1 (px_chain (o := .le) (o' := .lt) op_le op_lt rfl px_int (px_var 0) (px_var 1))))))
  qs_nil)
theorem w_is_row {f : Addr} {cdv : Value} {A : Around} {outer : List PySem.Env} {s : Shared} {H : Hp} {Ex : XK} (hr : Room k (A.deeper (envOfC "is_row" (defScope st_is_row) s.heap.objs.size f cdv))) (E : En (cxOf CX0 P w K mg base N_is_row "is_row" (defScope st_is_row) f cdv A outer s H Ex).nox)  :
    PSs (cxOf CX0 P w K mg base N_is_row "is_row" (defScope st_is_row) f cdv A outer s H Ex).nox (defBody st_is_row) (trSs (cfg (cxOf CX0 P w K mg base N_is_row "is_row" (defScope st_is_row) f cdv A outer s H Ex).nox sp) ir_is_row.body) :=
  (qs_cons (q_ret (px_b (pb_and (px_isi (y := .tuple) E PyProof.Rows.boot_tuple (px_var 0) E.tuple) (pb_and1 (px_eq E (px_len E (px_var 0)) (px_var 1))))))
  qs_nil)
theorem w_tuple_of {f : Addr} {cdv : Value} {A : Around} {outer : List PySem.Env} {s : Shared} {H : Hp} {Ex : XK} (hr : Room k (A.deeper (envOfC "tuple_of" (defScope st_tuple_of) s.heap.objs.size f cdv))) (E : En (cxOf CX0 P w K mg base N_tuple_of "tuple_of" (defScope st_tuple_of) f cdv A outer s H Ex).nox) {f_tuple_of : Addr} {fd_tuple_of : FuncData} (F_tuple_of : Fc5 P w K mg base k sp 3 "tuple_of" f_tuple_of fd_tuple_of P_tuple_of) :
    PSs (cxOf CX0 P w K mg base N_tuple_of "tuple_of" (defScope st_tuple_of) f cdv A outer s H Ex).nox (defBody st_tuple_of) (trSs (cfg (cxOf CX0 P w K mg base N_tuple_of "tuple_of" (defScope st_tuple_of) f cdv A outer s H Ex).nox sp) ir_tuple_of.body) :=
  (qs_cons (q_if (px_isiT E (px_var 0) (ptys_cons (y := .list) PyProof.Rows.boot_list E.list (ptys_cons (y := .tuple) PyProof.Rows.boot_tuple E.tuple ptys_nil))) (qs_cons (q_ret (px_tuple E (px_lc [("part", 1)] E (pis_seq (px_var 0)) (blkOk_by (by kernel_rfl))  (fun s H C cl fp E => ⟨(pgt_name E 1), pcs_none, (px_call F_tuple_of hr (pas_cons (px_var 1) pas_nil))⟩))))
  qs_nil) qs_nil)
  (qs_cons (q_ret (px_var 0))
  qs_nil))
theorem w_set_of {f : Addr} {cdv : Value} {A : Around} {outer : List PySem.Env} {s : Shared} {H : Hp} {Ex : XK} (hr : Room k (A.deeper (envOfC "set_of" (defScope st_set_of) s.heap.objs.size f cdv))) (E : En (cxOf CX0 P w K mg base N_set_of "set_of" (defScope st_set_of) f cdv A outer s H Ex).nox)  :
    PSs (cxOf CX0 P w K mg base N_set_of "set_of" (defScope st_set_of) f cdv A outer s H Ex).nox (defBody st_set_of) (trSs (cfg (cxOf CX0 P w K mg base N_set_of "set_of" (defScope st_set_of) f cdv A outer s H Ex).nox sp) ir_set_of.body) :=
  (qs_cons (q_ret (px_tuple E (px_sset E (px_var 0))))
  qs_nil)
theorem w_web_of {f : Addr} {cdv : Value} {A : Around} {outer : List PySem.Env} {s : Shared} {H : Hp} {Ex : XK} (hr : Room k (A.deeper (envOfC "web_of" (defScope st_web_of) s.heap.objs.size f cdv))) (E : En (cxOf CX0 P w K mg base N_web_of "web_of" (defScope st_web_of) f cdv A outer s H Ex).nox) {f_is_below : Addr} {fd_is_below : FuncData} (F_is_below : Fc5 P w K mg base k sp 1 "is_below" f_is_below fd_is_below P_is_below) {f_set_of : Addr} {fd_set_of : FuncData} (F_set_of : Fc5 P w K mg base k sp 4 "set_of" f_set_of fd_set_of P_set_of) :
    PSs (cxOf CX0 P w K mg base N_web_of "web_of" (defScope st_web_of) f cdv A outer s H Ex).nox (defBody st_web_of) (trSs (cfg (cxOf CX0 P w K mg base N_web_of "web_of" (defScope st_web_of) f cdv A outer s H Ex).nox sp) ir_web_of.body) :=
  (qs_cons (q_setLc [("deed", 3)] E 2 (pis_rng1 E (px_var 0)) (blkOk_by (by kernel_rfl)) (sw_true rfl rfl rfl (by decide +kernel))  (fun s H C cl fp E => ⟨(pgt_name E 3), pcs_none, (px_lst pas_nil)⟩))
  (qs_cons (q_for E PassesOwn.never (pis_seq (px_var 1)) (pgt_tup E (pgs_n E 4 (pgs_n E 5 pgs_0))) (qs_cons (q_if (px_b (pb_or (px_not (px_call F_is_below hr (pas_cons (px_var 5) (pas_cons (px_var 0) pas_nil)))) (pb_or1 (px_not (px_call F_is_below hr (pas_cons (px_var 4) (pas_cons (px_var 5) pas_nil))))))) (qs_cons q_never
  qs_nil) qs_nil)
  (qs_cons (q_appix 2 4 (px_var 2) (px_var 5) (px_var 4))
  qs_nil)))
  (qs_cons (q_ret (px_tuple E (px_lc [("row", 6)] E (pis_seq (px_var 2)) (blkOk_by (by kernel_rfl))  (fun s H C cl fp E => ⟨(pgt_name E 6), pcs_none, (px_call F_set_of hr (pas_cons (px_var 6) pas_nil))⟩))))
  qs_nil)))
theorem w_pairs_of {f : Addr} {cdv : Value} {A : Around} {outer : List PySem.Env} {s : Shared} {H : Hp} {Ex : XK} (hr : Room k (A.deeper (envOfC "pairs_of" (defScope st_pairs_of) s.heap.objs.size f cdv))) (E : En (cxOf CX0 P w K mg base N_pairs_of "pairs_of" (defScope st_pairs_of) f cdv A outer s H Ex).nox)  :
    PSs (cxOf CX0 P w K mg base N_pairs_of "pairs_of" (defScope st_pairs_of) f cdv A outer s H Ex).nox (defBody st_pairs_of) (trSs (cfg (cxOf CX0 P w K mg base N_pairs_of "pairs_of" (defScope st_pairs_of) f cdv A outer s H Ex).nox sp) ir_pairs_of.body) :=
  (qs_cons (q_ret (px_sorted E (px_lc2 [("deed", 1), ("row", 2), ("near", 3)] E (pis_enum E (px_var 0)) (blkOk_by (by kernel_rfl)) (by decide) (fun s H C cl fp E => ⟨(pgt_tup E (pgs_n E 1 (pgs_n E 2 pgs_0))), pcs_none, (pis_seq (px_var 2)), (pgt_name E 3), pcs_none, (px_tup (pas_cons (px_var 3) (pas_cons (px_var 1) pas_nil)))⟩))))
  qs_nil)
theorem w_all_above {f : Addr} {cdv : Value} {A : Around} {outer : List PySem.Env} {s : Shared} {H : Hp} {Ex : XK} (hr : Room k (A.deeper (envOfC "all_above" (defScope st_all_above) s.heap.objs.size f cdv))) (E : En (cxOf CX0 P w K mg base N_all_above "all_above" (defScope st_all_above) f cdv A outer s H Ex).nox) {f_tuple_of : Addr} {fd_tuple_of : FuncData} (F_tuple_of : Fc5 P w K mg base k sp 3 "tuple_of" f_tuple_of fd_tuple_of P_tuple_of) {f_set_of : Addr} {fd_set_of : FuncData} (F_set_of : Fc5 P w K mg base k sp 4 "set_of" f_set_of fd_set_of P_set_of) :
    PSs (cxOf CX0 P w K mg base N_all_above "all_above" (defScope st_all_above) f cdv A outer s H Ex).nox (defBody st_all_above) (trSs (cfg (cxOf CX0 P w K mg base N_all_above "all_above" (defScope st_all_above) f cdv A outer s H Ex).nox sp) ir_all_above.body) :=
  (qs_cons (q_set E 1 (px_lst pas_nil))
  (qs_cons (q_for E PassesOwn.never (pis_seq (px_call F_tuple_of hr (pas_cons (px_var 0) pas_nil))) (pgt_name E 2) (qs_cons (q_app 1 (px_var 1) (px_call F_set_of hr (pas_cons (px_add (px_list E (px_var 2)) (px_lc2 [("near", 3), ("own", 4)] E (pis_seq (px_var 2)) (blkOk_by (by kernel_rfl)) (by decide) (fun s H C cl fp E => ⟨(pgt_name E 3), pcs_none, (pis_seq (px_ix (px_var 1) (px_var 3))), (pgt_name E 4), pcs_none, (px_var 4)⟩))) pas_nil)))
  qs_nil))
  (qs_cons (q_ret (px_var 1))
  qs_nil)))
theorem w_all_below {f : Addr} {cdv : Value} {A : Around} {outer : List PySem.Env} {s : Shared} {H : Hp} {Ex : XK} (hr : Room k (A.deeper (envOfC "all_below" (defScope st_all_below) s.heap.objs.size f cdv))) (E : En (cxOf CX0 P w K mg base N_all_below "all_below" (defScope st_all_below) f cdv A outer s H Ex).nox) {f_all_above : Addr} {fd_all_above : FuncData} (F_all_above : Fc5 P w K mg base k sp 7 "all_above" f_all_above fd_all_above P_all_above) :
    PSs (cxOf CX0 P w K mg base N_all_below "all_below" (defScope st_all_below) f cdv A outer s H Ex).nox (defBody st_all_below) (trSs (cfg (cxOf CX0 P w K mg base N_all_below "all_below" (defScope st_all_below) f cdv A outer s H Ex).nox sp) ir_all_below.body) :=
  (qs_cons (q_set E 1 (px_call F_all_above hr (pas_cons (px_var 0) pas_nil)))
  (qs_cons (q_ret (px_lc [("own", 3)] E (pis_rng1 E (px_len E (px_var 1))) (blkOk_by (by kernel_rfl))  (fun s H C cl fp E => ⟨(pgt_name E 3), pcs_none, (px_tuple E (px_lc [("deed", 2)] E (pis_rng1 E (px_len E (px_var 1))) (blkOk_by (by kernel_rfl))  (fun s H C cl fp E => ⟨(pgt_name E 2), (pcs_one (px_in E (px_var 3) (px_ix (px_var 1) (px_var 2)))), (px_var 2)⟩)))⟩)))
  qs_nil))
theorem w_turned {f : Addr} {cdv : Value} {A : Around} {outer : List PySem.Env} {s : Shared} {H : Hp} {Ex : XK} (hr : Room k (A.deeper (envOfC "turned" (defScope st_turned) s.heap.objs.size f cdv))) (E : En (cxOf CX0 P w K mg base N_turned "turned" (defScope st_turned) f cdv A outer s H Ex).nox) {f_tuple_of : Addr} {fd_tuple_of : FuncData} (F_tuple_of : Fc5 P w K mg base k sp 3 "tuple_of" f_tuple_of fd_tuple_of P_tuple_of) {f_web_of : Addr} {fd_web_of : FuncData} (F_web_of : Fc5 P w K mg base k sp 5 "web_of" f_web_of fd_web_of P_web_of) {f_pairs_of : Addr} {fd_pairs_of : FuncData} (F_pairs_of : Fc5 P w K mg base k sp 6 "pairs_of" f_pairs_of fd_pairs_of P_pairs_of) :
    PSs (cxOf CX0 P w K mg base N_turned "turned" (defScope st_turned) f cdv A outer s H Ex).nox (defBody st_turned) (trSs (cfg (cxOf CX0 P w K mg base N_turned "turned" (defScope st_turned) f cdv A outer s H Ex).nox sp) ir_turned.body) :=
  (qs_cons (q_set E 1 (px_len E (px_var 0)))
  (qs_cons (q_ret (px_call F_web_of hr (pas_cons (px_var 1) (pas_cons (px_lc [("near", 2), ("far", 3)] E (pis_seq (px_call F_pairs_of hr (pas_cons (px_call F_tuple_of hr (pas_cons (px_var 0) pas_nil)) pas_nil))) (blkOk_by (by kernel_rfl))  (fun s H C cl fp E => ⟨(pgt_tup E (pgs_n E 2 (pgs_n E 3 pgs_0))), pcs_none, (px_tup (pas_cons (px_subt (px_subt (px_var 1) px_int) (px_var 3)) (pas_cons (px_subt (px_subt (px_var 1) px_int) (px_var 2)) pas_nil)))⟩)) pas_nil))))
  qs_nil))
theorem w_work {f : Addr} {cdv : Value} {A : Around} {outer : List PySem.Env} {s : Shared} {H : Hp} {Ex : XK} (hr : Room k (A.deeper (envOfC "work" (defScope st_work) s.heap.objs.size f cdv))) (E : En (cxOf CX0 P w K mg base N_work "work" (defScope st_work) f cdv A outer s H Ex).nox)  :
    PSs (cxOf CX0 P w K mg base N_work "work" (defScope st_work) f cdv A outer s H Ex).nox (defBody st_work) (trSs (cfg (cxOf CX0 P w K mg base N_work "work" (defScope st_work) f cdv A outer s H Ex).nox sp) ir_work.body) :=
  (qs_cons (q_ret (px_len E (px_var 0)))
  qs_nil)
theorem w_levels {f : Addr} {cdv : Value} {A : Around} {outer : List PySem.Env} {s : Shared} {H : Hp} {Ex : XK} (hr : Room k (A.deeper (envOfC "levels" (defScope st_levels) s.heap.objs.size f cdv))) (E : En (cxOf CX0 P w K mg base N_levels "levels" (defScope st_levels) f cdv A outer s H Ex).nox) {f_tuple_of : Addr} {fd_tuple_of : FuncData} (F_tuple_of : Fc5 P w K mg base k sp 3 "tuple_of" f_tuple_of fd_tuple_of P_tuple_of) :
    PSs (cxOf CX0 P w K mg base N_levels "levels" (defScope st_levels) f cdv A outer s H Ex).nox (defBody st_levels) (trSs (cfg (cxOf CX0 P w K mg base N_levels "levels" (defScope st_levels) f cdv A outer s H Ex).nox sp) ir_levels.body) :=
  (qs_cons (q_set E 1 (px_lst pas_nil))
  (qs_cons (q_for E PassesOwn.never (pis_seq (px_call F_tuple_of hr (pas_cons (px_var 0) pas_nil))) (pgt_name E 2) (qs_cons (q_app 1 (px_var 1) (px_add px_int (px_max0 E (px_lc [("near", 3)] E (pis_seq (px_var 2)) (blkOk_by (by kernel_rfl))  (fun s H C cl fp E => ⟨(pgt_name E 3), pcs_none, (px_ix (px_var 1) (px_var 3))⟩)))))
  qs_nil))
  (qs_cons (q_ret (px_var 1))
  qs_nil)))
theorem w_heights {f : Addr} {cdv : Value} {A : Around} {outer : List PySem.Env} {s : Shared} {H : Hp} {Ex : XK} (hr : Room k (A.deeper (envOfC "heights" (defScope st_heights) s.heap.objs.size f cdv))) (E : En (cxOf CX0 P w K mg base N_heights "heights" (defScope st_heights) f cdv A outer s H Ex).nox) {f_turned : Addr} {fd_turned : FuncData} (F_turned : Fc5 P w K mg base k sp 9 "turned" f_turned fd_turned P_turned) {f_levels : Addr} {fd_levels : FuncData} (F_levels : Fc5 P w K mg base k sp 11 "levels" f_levels fd_levels P_levels) :
    PSs (cxOf CX0 P w K mg base N_heights "heights" (defScope st_heights) f cdv A outer s H Ex).nox (defBody st_heights) (trSs (cfg (cxOf CX0 P w K mg base N_heights "heights" (defScope st_heights) f cdv A outer s H Ex).nox sp) ir_heights.body) :=
  (qs_cons (q_ret (px_rev (px_call F_levels hr (pas_cons (px_call F_turned hr (pas_cons (px_var 0) pas_nil)) pas_nil))))
  qs_nil)
theorem w_depth {f : Addr} {cdv : Value} {A : Around} {outer : List PySem.Env} {s : Shared} {H : Hp} {Ex : XK} (hr : Room k (A.deeper (envOfC "depth" (defScope st_depth) s.heap.objs.size f cdv))) (E : En (cxOf CX0 P w K mg base N_depth "depth" (defScope st_depth) f cdv A outer s H Ex).nox) {f_levels : Addr} {fd_levels : FuncData} (F_levels : Fc5 P w K mg base k sp 11 "levels" f_levels fd_levels P_levels) :
    PSs (cxOf CX0 P w K mg base N_depth "depth" (defScope st_depth) f cdv A outer s H Ex).nox (defBody st_depth) (trSs (cfg (cxOf CX0 P w K mg base N_depth "depth" (defScope st_depth) f cdv A outer s H Ex).nox sp) ir_depth.body) :=
  (qs_cons (q_ret (px_max0 E (px_call F_levels hr (pas_cons (px_var 0) pas_nil))))
  qs_nil)
theorem w_longest_path {f : Addr} {cdv : Value} {A : Around} {outer : List PySem.Env} {s : Shared} {H : Hp} {Ex : XK} (hr : Room k (A.deeper (envOfC "longest_path" (defScope st_longest_path) s.heap.objs.size f cdv))) (E : En (cxOf CX0 P w K mg base N_longest_path "longest_path" (defScope st_longest_path) f cdv A outer s H Ex).nox) {f_levels : Addr} {fd_levels : FuncData} (F_levels : Fc5 P w K mg base k sp 11 "levels" f_levels fd_levels P_levels) {f_heights : Addr} {fd_heights : FuncData} (F_heights : Fc5 P w K mg base k sp 12 "heights" f_heights fd_heights P_heights) {f_depth : Addr} {fd_depth : FuncData} (F_depth : Fc5 P w K mg base k sp 13 "depth" f_depth fd_depth P_depth) :
    PSs (cxOf CX0 P w K mg base N_longest_path "longest_path" (defScope st_longest_path) f cdv A outer s H Ex).nox (defBody st_longest_path) (trSs (cfg (cxOf CX0 P w K mg base N_longest_path "longest_path" (defScope st_longest_path) f cdv A outer s H Ex).nox sp) ir_longest_path.body) :=
  (qs_cons (q_pars E (pas_cons (px_lst pas_nil) (pas_cons (px_call F_heights hr (pas_cons (px_var 0) pas_nil)) pas_nil)) (pgs_n E 1 (pgs_n E 2 pgs_0)))
  (qs_cons (q_set E 3 (px_lc [("deed", 4)] E (pis_rng1 E (px_len E (px_var 0))) (blkOk_by (by kernel_rfl))  (fun s H C cl fp E => ⟨(pgt_name E 4), (pcs_one (px_b (pb_and (px_eq E (px_ix (px_var 2) (px_var 4)) (px_call F_depth hr (pas_cons (px_var 0) pas_nil))) (pb_and1 (px_eq E (px_ix (px_call F_levels hr (pas_cons (px_var 0) pas_nil)) (px_var 4)) px_int))))), (px_var 4)⟩)))
  (qs_cons (q_while PassesOwn.never (px_gt (px_len E (px_var 3)) px_int) (qs_cons (q_app 1 (px_var 1) (px_ix (px_var 3) px_int))
  (qs_cons (q_set E 5 (px_subt (px_ix (px_var 2) (px_ix (px_var 3) px_int)) px_int))
  (qs_cons (q_set E 3 (px_lc [("deed", 4), ("row", 6)] E (pis_enum E (px_var 0)) (blkOk_by (by kernel_rfl))  (fun s H C cl fp E => ⟨(pgt_tup E (pgs_n E 4 (pgs_n E 6 pgs_0))), (pcs_one (px_b (pb_and (px_in E (px_ix (px_var 3) px_int) (px_var 6)) (pb_and1 (px_eq E (px_ix (px_var 2) (px_var 4)) (px_var 5)))))), (px_var 4)⟩)))
  qs_nil))))
  (qs_cons (q_ret (px_tuple E (px_var 1)))
  qs_nil))))
theorem w_is_path {f : Addr} {cdv : Value} {A : Around} {outer : List PySem.Env} {s : Shared} {H : Hp} {Ex : XK} (hr : Room k (A.deeper (envOfC "is_path" (defScope st_is_path) s.heap.objs.size f cdv))) (E : En (cxOf CX0 P w K mg base N_is_path "is_path" (defScope st_is_path) f cdv A outer s H Ex).nox) {f_is_below : Addr} {fd_is_below : FuncData} (F_is_below : Fc5 P w K mg base k sp 1 "is_below" f_is_below fd_is_below P_is_below) {f_all_above : Addr} {fd_all_above : FuncData} (F_all_above : Fc5 P w K mg base k sp 7 "all_above" f_all_above fd_all_above P_all_above) :
    PSs (cxOf CX0 P w K mg base N_is_path "is_path" (defScope st_is_path) f cdv A outer s H Ex).nox (defBody st_is_path) (trSs (cfg (cxOf CX0 P w K mg base N_is_path "is_path" (defScope st_is_path) f cdv A outer s H Ex).nox sp) ir_is_path.body) :=
  (qs_cons (q_if (px_b (pb_or (px_not (px_isi (y := .tuple) E PyProof.Rows.boot_tuple (px_var 1) E.tuple)) (pb_or1 (px_not (px_all E (px_lc [("deed", 2)] E (pis_seq (px_var 1)) (blkOk_by (by kernel_rfl))  (fun s H C cl fp E => ⟨(pgt_name E 2), pcs_none, (px_call F_is_below hr (pas_cons (px_var 2) (pas_cons (px_len E (px_var 0)) pas_nil)))⟩))))))) (qs_cons (q_ret px_bl)
  qs_nil) qs_nil)
  (qs_cons (q_set E 3 (px_call F_all_above hr (pas_cons (px_var 0) pas_nil)))
  (qs_cons (q_ret (px_all E (px_lc [("near", 4), ("far", 5)] E (pis_zip E (px_var 1) (px_slc (px_var 1) (pos_some px_int) pos_none)) (blkOk_by (by kernel_rfl))  (fun s H C cl fp E => ⟨(pgt_tup E (pgs_n E 4 (pgs_n E 5 pgs_0))), pcs_none, (px_in E (px_var 4) (px_ix (px_var 3) (px_var 5)))⟩))))
  qs_nil)))
theorem w_lots {f : Addr} {cdv : Value} {A : Around} {outer : List PySem.Env} {s : Shared} {H : Hp} {Ex : XK} (hr : Room k (A.deeper (envOfC "lots" (defScope st_lots) s.heap.objs.size f cdv))) (E : En (cxOf CX0 P w K mg base N_lots "lots" (defScope st_lots) f cdv A outer s H Ex).nox) {f_levels : Addr} {fd_levels : FuncData} (F_levels : Fc5 P w K mg base k sp 11 "levels" f_levels fd_levels P_levels) {f_depth : Addr} {fd_depth : FuncData} (F_depth : Fc5 P w K mg base k sp 13 "depth" f_depth fd_depth P_depth) :
    PSs (cxOf CX0 P w K mg base N_lots "lots" (defScope st_lots) f cdv A outer s H Ex).nox (defBody st_lots) (trSs (cfg (cxOf CX0 P w K mg base N_lots "lots" (defScope st_lots) f cdv A outer s H Ex).nox sp) ir_lots.body) :=
  (qs_cons (q_set E 1 (px_call F_levels hr (pas_cons (px_var 0) pas_nil)))
  (qs_cons (q_ret (px_tuple E (px_lc [("own", 3)] E (pis_rng2 E px_int (px_add (px_call F_depth hr (pas_cons (px_var 0) pas_nil)) px_int)) (blkOk_by (by kernel_rfl))  (fun s H C cl fp E => ⟨(pgt_name E 3), pcs_none, (px_tuple E (px_lc [("deed", 2)] E (pis_rng1 E (px_len E (px_var 0))) (blkOk_by (by kernel_rfl))  (fun s H C cl fp E => ⟨(pgt_name E 2), (pcs_one (px_eq E (px_ix (px_var 1) (px_var 2)) (px_var 3))), (px_var 2)⟩)))⟩))))
  qs_nil))
theorem w_is_apart_set {f : Addr} {cdv : Value} {A : Around} {outer : List PySem.Env} {s : Shared} {H : Hp} {Ex : XK} (hr : Room k (A.deeper (envOfC "is_apart_set" (defScope st_is_apart_set) s.heap.objs.size f cdv))) (E : En (cxOf CX0 P w K mg base N_is_apart_set "is_apart_set" (defScope st_is_apart_set) f cdv A outer s H Ex).nox) {f_is_below : Addr} {fd_is_below : FuncData} (F_is_below : Fc5 P w K mg base k sp 1 "is_below" f_is_below fd_is_below P_is_below) {f_set_of : Addr} {fd_set_of : FuncData} (F_set_of : Fc5 P w K mg base k sp 4 "set_of" f_set_of fd_set_of P_set_of) {f_all_above : Addr} {fd_all_above : FuncData} (F_all_above : Fc5 P w K mg base k sp 7 "all_above" f_all_above fd_all_above P_all_above) :
    PSs (cxOf CX0 P w K mg base N_is_apart_set "is_apart_set" (defScope st_is_apart_set) f cdv A outer s H Ex).nox (defBody st_is_apart_set) (trSs (cfg (cxOf CX0 P w K mg base N_is_apart_set "is_apart_set" (defScope st_is_apart_set) f cdv A outer s H Ex).nox sp) ir_is_apart_set.body) :=
  (qs_cons (q_if (px_b (pb_or (px_not (px_isi (y := .tuple) E PyProof.Rows.boot_tuple (px_var 1) E.tuple)) (pb_or1 (px_not (px_all E (px_lc [("deed", 2)] E (pis_seq (px_var 1)) (blkOk_by (by kernel_rfl))  (fun s H C cl fp E => ⟨(pgt_name E 2), pcs_none, (px_call F_is_below hr (pas_cons (px_var 2) (pas_cons (px_len E (px_var 0)) pas_nil)))⟩))))))) (qs_cons (q_ret px_bl)
  qs_nil) qs_nil)
  (qs_cons (q_set E 3 (px_call F_all_above hr (pas_cons (px_var 0) pas_nil)))
  (qs_cons (q_ret (px_b (pb_and (px_eq E (px_var 1) (px_call F_set_of hr (pas_cons (px_var 1) pas_nil))) (pb_and1 (px_not (px_any E (px_lc2 [("one", 4), ("other", 5)] E (pis_seq (px_var 1)) (blkOk_by (by kernel_rfl)) (by decide) (fun s H C cl fp E => ⟨(pgt_name E 4), pcs_none, (pis_seq (px_var 1)), (pgt_name E 5), pcs_none, (px_in E (px_var 4) (px_ix (px_var 3) (px_var 5)))⟩))))))))
  qs_nil)))
theorem w_is_lots {f : Addr} {cdv : Value} {A : Around} {outer : List PySem.Env} {s : Shared} {H : Hp} {Ex : XK} (hr : Room k (A.deeper (envOfC "is_lots" (defScope st_is_lots) s.heap.objs.size f cdv))) (E : En (cxOf CX0 P w K mg base N_is_lots "is_lots" (defScope st_is_lots) f cdv A outer s H Ex).nox) {f_is_apart_set : Addr} {fd_is_apart_set : FuncData} (F_is_apart_set : Fc5 P w K mg base k sp 17 "is_apart_set" f_is_apart_set fd_is_apart_set P_is_apart_set) :
    PSs (cxOf CX0 P w K mg base N_is_lots "is_lots" (defScope st_is_lots) f cdv A outer s H Ex).nox (defBody st_is_lots) (trSs (cfg (cxOf CX0 P w K mg base N_is_lots "is_lots" (defScope st_is_lots) f cdv A outer s H Ex).nox sp) ir_is_lots.body) :=
  (qs_cons (q_if (px_b (pb_or (px_not (px_isi (y := .tuple) E PyProof.Rows.boot_tuple (px_var 1) E.tuple)) (pb_or1 (px_not (px_all E (px_lc [("own", 2)] E (pis_seq (px_var 1)) (blkOk_by (by kernel_rfl))  (fun s H C cl fp E => ⟨(pgt_name E 2), pcs_none, (px_call F_is_apart_set hr (pas_cons (px_var 0) (pas_cons (px_var 2) pas_nil)))⟩))))))) (qs_cons (q_ret px_bl)
  qs_nil) qs_nil)
  (qs_cons (q_ret (px_eq E (px_sorted E (px_lc2 [("own", 2), ("deed", 3)] E (pis_seq (px_var 1)) (blkOk_by (by kernel_rfl)) (by decide) (fun s H C cl fp E => ⟨(pgt_name E 2), pcs_none, (pis_seq (px_var 2)), (pgt_name E 3), pcs_none, (px_var 3)⟩))) (let h := (px_len E (px_var 0)); px_lrng1 E h (prg_1 rfl E.range h.v))))
  qs_nil))
theorem w_slack {f : Addr} {cdv : Value} {A : Around} {outer : List PySem.Env} {s : Shared} {H : Hp} {Ex : XK} (hr : Room k (A.deeper (envOfC "slack" (defScope st_slack) s.heap.objs.size f cdv))) (E : En (cxOf CX0 P w K mg base N_slack "slack" (defScope st_slack) f cdv A outer s H Ex).nox) {f_levels : Addr} {fd_levels : FuncData} (F_levels : Fc5 P w K mg base k sp 11 "levels" f_levels fd_levels P_levels) {f_heights : Addr} {fd_heights : FuncData} (F_heights : Fc5 P w K mg base k sp 12 "heights" f_heights fd_heights P_heights) {f_depth : Addr} {fd_depth : FuncData} (F_depth : Fc5 P w K mg base k sp 13 "depth" f_depth fd_depth P_depth) :
    PSs (cxOf CX0 P w K mg base N_slack "slack" (defScope st_slack) f cdv A outer s H Ex).nox (defBody st_slack) (trSs (cfg (cxOf CX0 P w K mg base N_slack "slack" (defScope st_slack) f cdv A outer s H Ex).nox sp) ir_slack.body) :=
  (qs_cons (q_set E 1 (px_call F_depth hr (pas_cons (px_var 0) pas_nil)))
  (qs_cons (q_ret (px_lc [("near", 2), ("far", 3)] E (pis_zip E (px_call F_levels hr (pas_cons (px_var 0) pas_nil)) (px_call F_heights hr (pas_cons (px_var 0) pas_nil))) (blkOk_by (by kernel_rfl))  (fun s H C cl fp E => ⟨(pgt_tup E (pgs_n E 2 (pgs_n E 3 pgs_0))), pcs_none, (px_subt (px_subt (px_add (px_var 1) px_int) (px_var 2)) (px_var 3))⟩)))
  qs_nil))
theorem w_must_in_time {f : Addr} {cdv : Value} {A : Around} {outer : List PySem.Env} {s : Shared} {H : Hp} {Ex : XK} (hr : Room k (A.deeper (envOfC "must_in_time" (defScope st_must_in_time) s.heap.objs.size f cdv))) (E : En (cxOf CX0 P w K mg base N_must_in_time "must_in_time" (defScope st_must_in_time) f cdv A outer s H Ex).nox) {f_slack : Addr} {fd_slack : FuncData} (F_slack : Fc5 P w K mg base k sp 19 "slack" f_slack fd_slack P_slack) :
    PSs (cxOf CX0 P w K mg base N_must_in_time "must_in_time" (defScope st_must_in_time) f cdv A outer s H Ex).nox (defBody st_must_in_time) (trSs (cfg (cxOf CX0 P w K mg base N_must_in_time "must_in_time" (defScope st_must_in_time) f cdv A outer s H Ex).nox sp) ir_must_in_time.body) :=
  (qs_cons (q_ret (px_tuple E (px_lc [("deed", 1), ("own", 2)] E (pis_enum E (px_call F_slack hr (pas_cons (px_var 0) pas_nil))) (blkOk_by (by kernel_rfl))  (fun s H C cl fp E => ⟨(pgt_tup E (pgs_n E 1 (pgs_n E 2 pgs_0))), (pcs_one (px_eq E (px_var 2) px_int)), (px_var 1)⟩))))
  qs_nil)
theorem w_share_of_work {f : Addr} {cdv : Value} {A : Around} {outer : List PySem.Env} {s : Shared} {H : Hp} {Ex : XK} (hr : Room k (A.deeper (envOfC "share_of_work" (defScope st_share_of_work) s.heap.objs.size f cdv))) (E : En (cxOf CX0 P w K mg base N_share_of_work "share_of_work" (defScope st_share_of_work) f cdv A outer s H Ex).nox) {f_work : Addr} {fd_work : FuncData} (F_work : Fc5 P w K mg base k sp 10 "work" f_work fd_work P_work) {f_depth : Addr} {fd_depth : FuncData} (F_depth : Fc5 P w K mg base k sp 13 "depth" f_depth fd_depth P_depth) :
    PSs (cxOf CX0 P w K mg base N_share_of_work "share_of_work" (defScope st_share_of_work) f cdv A outer s H Ex).nox (defBody st_share_of_work) (trSs (cfg (cxOf CX0 P w K mg base N_share_of_work "share_of_work" (defScope st_share_of_work) f cdv A outer s H Ex).nox sp) ir_share_of_work.body) :=
  (qs_cons (q_ret (px_tup (pas_cons (px_call F_work hr (pas_cons (px_var 0) pas_nil)) (pas_cons (px_call F_depth hr (pas_cons (px_var 0) pas_nil)) pas_nil))))
  qs_nil)
theorem w_is_deep_paper {f : Addr} {cdv : Value} {A : Around} {outer : List PySem.Env} {s : Shared} {H : Hp} {Ex : XK} (hr : Room k (A.deeper (envOfC "is_deep_paper" (defScope st_is_deep_paper) s.heap.objs.size f cdv))) (E : En (cxOf CX0 P w K mg base N_is_deep_paper "is_deep_paper" (defScope st_is_deep_paper) f cdv A outer s H Ex).nox) {f_is_row : Addr} {fd_is_row : FuncData} (F_is_row : Fc5 P w K mg base k sp 2 "is_row" f_is_row fd_is_row P_is_row) {f_is_path : Addr} {fd_is_path : FuncData} (F_is_path : Fc5 P w K mg base k sp 15 "is_path" f_is_path fd_is_path P_is_path) {f_is_lots : Addr} {fd_is_lots : FuncData} (F_is_lots : Fc5 P w K mg base k sp 18 "is_lots" f_is_lots fd_is_lots P_is_lots) :
    PSs (cxOf CX0 P w K mg base N_is_deep_paper "is_deep_paper" (defScope st_is_deep_paper) f cdv A outer s H Ex).nox (defBody st_is_deep_paper) (trSs (cfg (cxOf CX0 P w K mg base N_is_deep_paper "is_deep_paper" (defScope st_is_deep_paper) f cdv A outer s H Ex).nox sp) ir_is_deep_paper.body) :=
  (qs_cons (q_if (px_b (pb_or (px_not (px_call F_is_row hr (pas_cons (px_var 1) (pas_cons px_int pas_nil)))) (pb_or (px_not (px_call F_is_path hr (pas_cons (px_var 0) (pas_cons (px_ix (px_var 1) px_int) pas_nil)))) (pb_or1 (px_not (px_call F_is_lots hr (pas_cons (px_var 0) (pas_cons (px_ix (px_var 1) px_int) pas_nil)))))))) (qs_cons (q_ret px_bl)
  qs_nil) qs_nil)
  (qs_cons (q_ret (px_eq E (px_len E (px_ix (px_var 1) px_int)) (px_len E (px_ix (px_var 1) px_int))))
  qs_nil))
theorem w_deep_paper {f : Addr} {cdv : Value} {A : Around} {outer : List PySem.Env} {s : Shared} {H : Hp} {Ex : XK} (hr : Room k (A.deeper (envOfC "deep_paper" (defScope st_deep_paper) s.heap.objs.size f cdv))) (E : En (cxOf CX0 P w K mg base N_deep_paper "deep_paper" (defScope st_deep_paper) f cdv A outer s H Ex).nox) {f_longest_path : Addr} {fd_longest_path : FuncData} (F_longest_path : Fc5 P w K mg base k sp 14 "longest_path" f_longest_path fd_longest_path P_longest_path) {f_lots : Addr} {fd_lots : FuncData} (F_lots : Fc5 P w K mg base k sp 16 "lots" f_lots fd_lots P_lots) :
    PSs (cxOf CX0 P w K mg base N_deep_paper "deep_paper" (defScope st_deep_paper) f cdv A outer s H Ex).nox (defBody st_deep_paper) (trSs (cfg (cxOf CX0 P w K mg base N_deep_paper "deep_paper" (defScope st_deep_paper) f cdv A outer s H Ex).nox sp) ir_deep_paper.body) :=
  (qs_cons (q_ret (px_tup (pas_cons (px_call F_longest_path hr (pas_cons (px_var 0) pas_nil)) (pas_cons (px_call F_lots hr (pas_cons (px_var 0) pas_nil)) pas_nil))))
  qs_nil)
theorem w_reach {f : Addr} {cdv : Value} {A : Around} {outer : List PySem.Env} {s : Shared} {H : Hp} {Ex : XK} (hr : Room k (A.deeper (envOfC "reach" (defScope st_reach) s.heap.objs.size f cdv))) (E : En (cxOf CX0 P w K mg base N_reach "reach" (defScope st_reach) f cdv A outer s H Ex).nox) {f_all_above : Addr} {fd_all_above : FuncData} (F_all_above : Fc5 P w K mg base k sp 7 "all_above" f_all_above fd_all_above P_all_above) {f_all_below : Addr} {fd_all_below : FuncData} (F_all_below : Fc5 P w K mg base k sp 8 "all_below" f_all_below fd_all_below P_all_below) :
    PSs (cxOf CX0 P w K mg base N_reach "reach" (defScope st_reach) f cdv A outer s H Ex).nox (defBody st_reach) (trSs (cfg (cxOf CX0 P w K mg base N_reach "reach" (defScope st_reach) f cdv A outer s H Ex).nox sp) ir_reach.body) :=
  (qs_cons (q_ret (px_lc [("near", 1), ("far", 2)] E (pis_zip E (px_call F_all_above hr (pas_cons (px_var 0) pas_nil)) (px_call F_all_below hr (pas_cons (px_var 0) pas_nil))) (blkOk_by (by kernel_rfl))  (fun s H C cl fp E => ⟨(pgt_tup E (pgs_n E 1 (pgs_n E 2 pgs_0))), pcs_none, (px_tup (pas_cons (px_len E (px_var 1)) (pas_cons (px_len E (px_var 2)) pas_nil)))⟩)))
  qs_nil)
theorem w__law_box {f : Addr} {cdv : Value} {A : Around} {outer : List PySem.Env} {s : Shared} {H : Hp} {Ex : XK} (hr : Room k (A.deeper (envOfC "_law_box" (defScope st__law_box) s.heap.objs.size f cdv))) (E : En (cxOf CX0 P w K mg base N__law_box "_law_box" (defScope st__law_box) f cdv A outer s H Ex).nox)  :
    PSs (cxOf CX0 P w K mg base N__law_box "_law_box" (defScope st__law_box) f cdv A outer s H Ex).nox (defBody st__law_box) (trSs (cfg (cxOf CX0 P w K mg base N__law_box "_law_box" (defScope st__law_box) f cdv A outer s H Ex).nox sp) ir__law_box.body) :=
  (qs_cons (q_set E 2 (px_ite (px_lt (px_var 1) (px_len E (px_var 0))) (px_ix (px_var 0) (px_var 1)) px_int))
  (qs_cons (q_ret (px_lst (pas_cons (px_mul (px_abs E (px_var 2)) (px_intf E (px_ge (px_abs E (px_var 2)) (px_pow px_int px_int)))) (pas_cons (px_add (px_add (px_mod (px_intf E (px_var 2)) px_int) (px_mul px_int (px_var 1))) px_int) (pas_cons px_int pas_nil)))))
  qs_nil))
theorem w__law_take {f : Addr} {cdv : Value} {A : Around} {outer : List PySem.Env} {s : Shared} {H : Hp} {Ex : XK} (hr : Room k (A.deeper (envOfC "_law_take" (defScope st__law_take) s.heap.objs.size f cdv))) (E : En (cxOf CX0 P w K mg base N__law_take "_law_take" (defScope st__law_take) f cdv A outer s H Ex).nox)  :
    PSs (cxOf CX0 P w K mg base N__law_take "_law_take" (defScope st__law_take) f cdv A outer s H Ex).nox (defBody st__law_take) (trSs (cfg (cxOf CX0 P w K mg base N__law_take "_law_take" (defScope st__law_take) f cdv A outer s H Ex).nox sp) ir__law_take.body) :=
  (qs_cons (q_if (px_gt (px_ix (px_var 0) px_int) px_int) (qs_cons (q_set E 2 (px_mod (px_intf E (px_ix (px_var 0) px_int)) (px_var 1)))
  (qs_cons (q_setix 0 (px_var 0) px_int (px_fdiv (px_ix (px_var 0) px_int) (px_var 1)))
  (qs_cons (q_ret (px_var 2))
  qs_nil))) qs_nil)
  (qs_cons (q_setix 0 (px_var 0) px_int (px_add (px_ix (px_var 0) px_int) px_int))
  (qs_cons (q_set E 3 (px_mod (px_intf E (px_mul (px_add (px_ix (px_var 0) px_int) (px_mul px_int (px_ix (px_var 0) px_int))) (px_add px_int (px_ix (px_var 0) px_int)))) px_int))
  (qs_cons (q_set E 4 (px_add (px_mod (px_intf E (px_var 3)) px_int) px_int))
  (qs_cons (q_set E 5 (px_mod (px_intf E (px_mul (px_add (px_add (px_var 3) (px_ix (px_var 0) px_int)) (px_fdiv (px_ix (px_var 0) px_int) px_int)) (px_var 4))) px_int))
  (qs_cons (q_ret (px_mod (px_intf E (px_fdiv (px_mod (px_intf E (px_add (px_mul (px_var 5) px_int) (px_var 3))) px_int) px_int)) (px_var 1)))
  qs_nil))))))
theorem w__law_cells {f : Addr} {cdv : Value} {A : Around} {outer : List PySem.Env} {s : Shared} {H : Hp} {Ex : XK} (hr : Room k (A.deeper (envOfC "_law_cells" (defScope st__law_cells) s.heap.objs.size f cdv))) (E : En (cxOf CX0 P w K mg base N__law_cells "_law_cells" (defScope st__law_cells) f cdv A outer s H Ex).nox)  :
    PSs (cxOf CX0 P w K mg base N__law_cells "_law_cells" (defScope st__law_cells) f cdv A outer s H Ex).nox (defBody st__law_cells) (trSs (cfg (cxOf CX0 P w K mg base N__law_cells "_law_cells" (defScope st__law_cells) f cdv A outer s H Ex).nox sp) ir__law_cells.body) :=
  (qs_cons (q_set E 2 (px_b (pb_or (px_list E (px_slc (px_var 0) pos_none (pos_some (px_var 1)))) (pb_or1 (px_lst (pas_cons px_int pas_nil))))))
  (qs_cons (q_for E PassesOwn.never (pis_enum E (px_slc (px_var 0) (pos_some (px_var 1)) (pos_some px_int))) (pgt_tup E (pgs_n E 3 (pgs_n E 4 pgs_0))) (qs_cons (q_set E 5 (px_mod (px_intf E (px_var 3)) (px_var 1)))
  (qs_cons (q_setix 2 (px_var 2) (px_var 5) (px_add (px_ix (px_var 2) (px_var 5)) (px_mul (px_var 4) (px_add (px_var 3) px_int))))
  qs_nil)))
  (qs_cons (q_ret (px_var 2))
  qs_nil)))
theorem w__law_of {f : Addr} {cdv : Value} {A : Around} {outer : List PySem.Env} {s : Shared} {H : Hp} {Ex : XK} (hr : Room k (A.deeper (envOfC "_law_of" (defScope st__law_of) s.heap.objs.size f cdv))) (E : En (cxOf CX0 P w K mg base N__law_of "_law_of" (defScope st__law_of) f cdv A outer s H Ex).nox) {f__law_take : Addr} {fd__law_take : FuncData} (F__law_take : Fc5 P w K mg base k sp 26 "_law_take" f__law_take fd__law_take P__law_take) :
    PSs (cxOf CX0 P w K mg base N__law_of "_law_of" (defScope st__law_of) f cdv A outer s H Ex).nox (defBody st__law_of) (trSs (cfg (cxOf CX0 P w K mg base N__law_of "_law_of" (defScope st__law_of) f cdv A outer s H Ex).nox sp) ir__law_of.body) :=
  (qs_cons (q_ret (px_ix (px_var 1) (px_call F__law_take hr (pas_cons (px_var 0) (pas_cons (px_len E (px_var 1)) pas_nil)))))
  qs_nil)
theorem w__law_same {f : Addr} {cdv : Value} {A : Around} {outer : List PySem.Env} {s : Shared} {H : Hp} {Ex : XK} (hr : Room k (A.deeper (envOfC "_law_same" (defScope st__law_same) s.heap.objs.size f cdv))) (E : En (cxOf CX0 P w K mg base N__law_same "_law_same" (defScope st__law_same) f cdv A outer s H Ex).nox) {f__law_same : Addr} {fd__law_same : FuncData} (F__law_same : Fc5 P w K mg base k sp 29 "_law_same" f__law_same fd__law_same P__law_same) :
    PSs (cxOf CX0 P w K mg base N__law_same "_law_same" (defScope st__law_same) f cdv A outer s H Ex).nox (defBody st__law_same) (trSs (cfg (cxOf CX0 P w K mg base N__law_same "_law_same" (defScope st__law_same) f cdv A outer s H Ex).nox sp) ir__law_same.body) :=
  (qs_cons (q_if (px_isiT E (px_var 1) (ptys_cons (y := .list) PyProof.Rows.boot_list E.list (ptys_cons (y := .tuple) PyProof.Rows.boot_tuple E.tuple ptys_nil))) (qs_cons (q_if (px_b (pb_or (px_ne E (px_isi (y := .list) E PyProof.Rows.boot_list (px_var 0) E.list) (px_isi (y := .list) E PyProof.Rows.boot_list (px_var 1) E.list)) (pb_or1 (px_ne E (px_isi (y := .tuple) E PyProof.Rows.boot_tuple (px_var 0) E.tuple) (px_isi (y := .tuple) E PyProof.Rows.boot_tuple (px_var 1) E.tuple))))) (qs_cons (q_ret px_bl)
  qs_nil) qs_nil)
  (qs_cons (q_ret (px_b (pb_and (px_eq E (px_len E (px_var 0)) (px_len E (px_var 1))) (pb_and1 (px_all E (px_lc [("near", 2), ("far", 3)] E (pis_zip E (px_var 0) (px_var 1)) (blkOk_by (by kernel_rfl))  (fun s H C cl fp E => ⟨(pgt_tup E (pgs_n E 2 (pgs_n E 3 pgs_0))), pcs_none, (px_call F__law_same hr (pas_cons (px_var 2) (pas_cons (px_var 3) pas_nil)))⟩)))))))
  qs_nil)) qs_nil)
  (qs_cons (q_if (px_b (pb_or (px_is (px_var 1) px_non) (pb_or1 (px_isiT E (px_var 1) (ptys_cons (y := .bool) PD.boot_bool E.bool (ptys_cons (y := .str) PD.boot_str E.str ptys_nil)))))) (qs_cons (q_ret (px_b (pb_and (px_eq E (px_var 0) (px_var 1)) (pb_and (px_eq E (px_isi (y := .bool) E PD.boot_bool (px_var 0) E.bool) (px_isi (y := .bool) E PD.boot_bool (px_var 1) E.bool)) (pb_and1 (px_eq E (px_is (px_var 0) px_non) (px_is (px_var 1) px_non)))))))
  qs_nil) qs_nil)
  (qs_cons (q_ret (px_b (pb_and (px_isi (y := .int) E PyProof.Rows.boot_int (px_var 0) E.int) (pb_and (px_not (px_isi (y := .bool) E PD.boot_bool (px_var 0) E.bool)) (pb_and1 (px_eq E (px_var 0) (px_var 1)))))))
  qs_nil)))
theorem w__law_flat {f : Addr} {cdv : Value} {A : Around} {outer : List PySem.Env} {s : Shared} {H : Hp} {Ex : XK} (hr : Room k (A.deeper (envOfC "_law_flat" (defScope st__law_flat) s.heap.objs.size f cdv))) (E : En (cxOf CX0 P w K mg base N__law_flat "_law_flat" (defScope st__law_flat) f cdv A outer s H Ex).nox)  :
    PSs (cxOf CX0 P w K mg base N__law_flat "_law_flat" (defScope st__law_flat) f cdv A outer s H Ex).nox (defBody st__law_flat) (trSs (cfg (cxOf CX0 P w K mg base N__law_flat "_law_flat" (defScope st__law_flat) f cdv A outer s H Ex).nox sp) ir__law_flat.body) :=
  (qs_cons (q_set E 1 (px_lst pas_nil))
  (qs_cons (q_for E PassesOwn.never (pis_seq (px_var 0)) (pgt_name E 2) (qs_cons (q_set E 1 (px_add (px_var 1) (px_list E (px_var 2))))
  qs_nil))
  (qs_cons (q_ret (px_var 1))
  qs_nil)))
theorem w__law_set {f : Addr} {cdv : Value} {A : Around} {outer : List PySem.Env} {s : Shared} {H : Hp} {Ex : XK} (hr : Room k (A.deeper (envOfC "_law_set" (defScope st__law_set) s.heap.objs.size f cdv))) (E : En (cxOf CX0 P w K mg base N__law_set "_law_set" (defScope st__law_set) f cdv A outer s H Ex).nox)  :
    PSs (cxOf CX0 P w K mg base N__law_set "_law_set" (defScope st__law_set) f cdv A outer s H Ex).nox (defBody st__law_set) (trSs (cfg (cxOf CX0 P w K mg base N__law_set "_law_set" (defScope st__law_set) f cdv A outer s H Ex).nox sp) ir__law_set.body) :=
  (qs_cons (q_ret (px_tuple E (px_sset E (px_list E (px_var 0)))))
  qs_nil)
theorem w__law_above {f : Addr} {cdv : Value} {A : Around} {outer : List PySem.Env} {s : Shared} {H : Hp} {Ex : XK} (hr : Room k (A.deeper (envOfC "_law_above" (defScope st__law_above) s.heap.objs.size f cdv))) (E : En (cxOf CX0 P w K mg base N__law_above "_law_above" (defScope st__law_above) f cdv A outer s H Ex).nox) {f__law_flat : Addr} {fd__law_flat : FuncData} (F__law_flat : Fc5 P w K mg base k sp 30 "_law_flat" f__law_flat fd__law_flat P__law_flat) {f__law_set : Addr} {fd__law_set : FuncData} (F__law_set : Fc5 P w K mg base k sp 31 "_law_set" f__law_set fd__law_set P__law_set) :
    PSs (cxOf CX0 P w K mg base N__law_above "_law_above" (defScope st__law_above) f cdv A outer s H Ex).nox (defBody st__law_above) (trSs (cfg (cxOf CX0 P w K mg base N__law_above "_law_above" (defScope st__law_above) f cdv A outer s H Ex).nox sp) ir__law_above.body) :=
  (qs_cons (q_set E 1 (px_lst pas_nil))
  (qs_cons (q_for E PassesOwn.never (pis_seq (px_var 0)) (pgt_name E 2) (qs_cons (q_app 1 (px_var 1) (px_call F__law_set hr (pas_cons (px_add (px_list E (px_var 2)) (px_call F__law_flat hr (pas_cons (px_lc [("near", 3)] E (pis_seq (px_var 2)) (blkOk_by (by kernel_rfl))  (fun s H C cl fp E => ⟨(pgt_name E 3), pcs_none, (px_ix (px_var 1) (px_var 3))⟩)) pas_nil))) pas_nil)))
  qs_nil))
  (qs_cons (q_ret (px_var 1))
  qs_nil)))
theorem w__law_some {f : Addr} {cdv : Value} {A : Around} {outer : List PySem.Env} {s : Shared} {H : Hp} {Ex : XK} (hr : Room k (A.deeper (envOfC "_law_some" (defScope st__law_some) s.heap.objs.size f cdv))) (E : En (cxOf CX0 P w K mg base N__law_some "_law_some" (defScope st__law_some) f cdv A outer s H Ex).nox) {f__law_of : Addr} {fd__law_of : FuncData} (F__law_of : Fc5 P w K mg base k sp 28 "_law_of" f__law_of fd__law_of P__law_of) :
    PSs (cxOf CX0 P w K mg base N__law_some "_law_some" (defScope st__law_some) f cdv A outer s H Ex).nox (defBody st__law_some) (trSs (cfg (cxOf CX0 P w K mg base N__law_some "_law_some" (defScope st__law_some) f cdv A outer s H Ex).nox sp) ir__law_some.body) :=
  (qs_cons (q_pars E (pas_cons (px_list E (px_var 1)) (pas_cons (px_lst pas_nil) pas_nil)) (pgs_n E 3 (pgs_n E 4 pgs_0)))
  (qs_cons (q_for E PassesOwn.never (pis_rng1 E (px_min2 E (px_var 2) (px_len E (px_var 3)))) (pgt_name E 5) (qs_cons (q_app 4 (px_var 4) (px_call F__law_of hr (pas_cons (px_var 0) (pas_cons (px_var 3) pas_nil))))
  (qs_cons (q_setLc [("own", 6)] E 3 (pis_seq (px_var 3)) (blkOk_by (by kernel_rfl)) (sw_true rfl rfl rfl (by decide +kernel))  (fun s H C cl fp E => ⟨(pgt_name E 6), (pcs_one (px_ne E (px_var 6) (px_ix (px_var 4) (px_neg px_int)))), (px_var 6)⟩))
  qs_nil)))
  (qs_cons (q_ret (px_var 4))
  qs_nil)))
theorem w__law_mixed {f : Addr} {cdv : Value} {A : Around} {outer : List PySem.Env} {s : Shared} {H : Hp} {Ex : XK} (hr : Room k (A.deeper (envOfC "_law_mixed" (defScope st__law_mixed) s.heap.objs.size f cdv))) (E : En (cxOf CX0 P w K mg base N__law_mixed "_law_mixed" (defScope st__law_mixed) f cdv A outer s H Ex).nox) {f__law_take : Addr} {fd__law_take : FuncData} (F__law_take : Fc5 P w K mg base k sp 26 "_law_take" f__law_take fd__law_take P__law_take) {f__law_mixed : Addr} {fd__law_mixed : FuncData} (F__law_mixed : Fc5 P w K mg base k sp 34 "_law_mixed" f__law_mixed fd__law_mixed P__law_mixed) :
    PSs (cxOf CX0 P w K mg base N__law_mixed "_law_mixed" (defScope st__law_mixed) f cdv A outer s H Ex).nox (defBody st__law_mixed) (trSs (cfg (cxOf CX0 P w K mg base N__law_mixed "_law_mixed" (defScope st__law_mixed) f cdv A outer s H Ex).nox sp) ir__law_mixed.body) :=
  (qs_cons (q_if (px_not (px_isi (y := .tuple) E PyProof.Rows.boot_tuple (px_var 1) E.tuple)) (qs_cons (q_ret (px_var 1))
  qs_nil) qs_nil)
  (qs_cons (q_setLc [("own", 3)] E 2 (pis_seq (px_var 1)) (blkOk_by (by kernel_rfl)) (sw_true rfl rfl rfl (by decide +kernel))  (fun s H C cl fp E => ⟨(pgt_name E 3), pcs_none, (px_call F__law_mixed hr (pas_cons (px_var 0) (pas_cons (px_var 3) pas_nil)))⟩))
  (qs_cons (q_ret (px_ite (px_eq E (px_call F__law_take hr (pas_cons (px_var 0) (pas_cons px_int pas_nil))) px_int) (px_var 2) (px_tuple E (px_var 2))))
  qs_nil)))
theorem w__law_tall {f : Addr} {cdv : Value} {A : Around} {outer : List PySem.Env} {s : Shared} {H : Hp} {Ex : XK} (hr : Room k (A.deeper (envOfC "_law_tall" (defScope st__law_tall) s.heap.objs.size f cdv))) (E : En (cxOf CX0 P w K mg base N__law_tall "_law_tall" (defScope st__law_tall) f cdv A outer s H Ex).nox) {f__law_take : Addr} {fd__law_take : FuncData} (F__law_take : Fc5 P w K mg base k sp 26 "_law_take" f__law_take fd__law_take P__law_take) {f__law_set : Addr} {fd__law_set : FuncData} (F__law_set : Fc5 P w K mg base k sp 31 "_law_set" f__law_set fd__law_set P__law_set) :
    PSs (cxOf CX0 P w K mg base N__law_tall "_law_tall" (defScope st__law_tall) f cdv A outer s H Ex).nox (defBody st__law_tall) (trSs (cfg (cxOf CX0 P w K mg base N__law_tall "_law_tall" (defScope st__law_tall) f cdv A outer s H Ex).nox sp) ir__law_tall.body) :=
  (qs_cons (q_par E 2 3 (by decide) (pas_cons (px_lst pas_nil) (pas_cons (px_add px_int (px_call F__law_take hr (pas_cons (px_var 0) (pas_cons px_int pas_nil)))) pas_nil)) rfl)
  (qs_cons (q_for E PassesOwn.never (pis_rng1 E (px_var 1)) (pgt_name E 4) (qs_cons (q_set E 5 (px_ite (px_b (pb_and (px_ge (px_var 4) (px_var 3)) (pb_and1 (px_gt (px_call F__law_take hr (pas_cons (px_var 0) (pas_cons px_int pas_nil))) px_int)))) (px_lst (pas_cons (px_subt (px_var 4) (px_var 3)) pas_nil)) (px_lst pas_nil)))
  (qs_cons (q_set E 5 (px_add (px_var 5) (px_lc [("near", 6)] E (pis_rng2 E (px_max2 E px_int (px_subt (px_var 4) (px_mul px_int (px_var 3)))) (px_var 4)) (blkOk_by (by kernel_rfl))  (fun s H C cl fp E => ⟨(pgt_name E 6), (pcs_one (px_eq E (px_call F__law_take hr (pas_cons (px_var 0) (pas_cons px_int pas_nil))) px_int)), (px_var 6)⟩))))
  (qs_cons (q_app 2 (px_var 2) (px_call F__law_set hr (pas_cons (px_var 5) pas_nil)))
  qs_nil))))
  (qs_cons (q_ret (px_tuple E (px_var 2)))
  qs_nil)))
theorem w__law_best_path {f : Addr} {cdv : Value} {A : Around} {outer : List PySem.Env} {s : Shared} {H : Hp} {Ex : XK} (hr : Room k (A.deeper (envOfC "_law_best_path" (defScope st__law_best_path) s.heap.objs.size f cdv))) (E : En (cxOf CX0 P w K mg base N__law_best_path "_law_best_path" (defScope st__law_best_path) f cdv A outer s H Ex).nox)  :
    PSs (cxOf CX0 P w K mg base N__law_best_path "_law_best_path" (defScope st__law_best_path) f cdv A outer s H Ex).nox (defBody st__law_best_path) (trSs (cfg (cxOf CX0 P w K mg base N__law_best_path "_law_best_path" (defScope st__law_best_path) f cdv A outer s H Ex).nox sp) ir__law_best_path.body) :=
  (qs_cons (q_set E 2 (px_max E (px_add (px_var 1) (px_lst (pas_cons px_int pas_nil)))))
  (qs_cons (q_set E 3 (px_mul (px_lst (pas_cons px_int pas_nil)) (px_len E (px_var 0))))
  (qs_cons (q_for E PassesOwn.never (pis_rng3 E (px_subt (px_len E (px_var 0)) px_int) (px_neg px_int) (px_neg px_int)) (pgt_name E 4) (qs_cons (q_setix 3 (px_var 3) (px_var 4) (px_add px_int (px_max E (px_add (px_lc [("far", 5)] E (pis_rng1 E (px_len E (px_var 0))) (blkOk_by (by kernel_rfl))  (fun s H C cl fp E => ⟨(pgt_name E 5), (pcs_one (px_in E (px_var 4) (px_ix (px_var 0) (px_var 5)))), (px_ix (px_var 3) (px_var 5))⟩)) (px_lst (pas_cons px_int pas_nil))))))
  qs_nil))
  (qs_cons (q_set E 6 (px_tup pas_nil))
  (qs_cons (q_for E PassesOwn.never (pis_rng2 E px_int (px_add (px_var 2) px_int)) (pgt_name E 7) (qs_cons (q_setLc [("deed", 4)] E 8 (pis_rng1 E (px_len E (px_var 0))) (blkOk_by (by kernel_rfl)) (sw_true rfl rfl rfl (by decide +kernel))  (fun s H C cl fp E => ⟨(pgt_name E 4), (pcs_one (px_b (pb_and (px_eq E (px_ix (px_var 1) (px_var 4)) (px_var 7)) (pb_and (px_eq E (px_ix (px_var 3) (px_var 4)) (px_subt (px_add (px_var 2) px_int) (px_var 7))) (pb_and1 (px_b (pb_or (px_eq E (px_var 6) (px_tup pas_nil)) (pb_or1 (px_in E (px_ix (px_var 6) (px_neg px_int)) (px_ix (px_var 0) (px_var 4))))))))))), (px_var 4)⟩))
  (qs_cons (q_set E 6 (px_add (px_var 6) (px_tup (pas_cons (px_ix (px_var 8) px_int) pas_nil))))
  qs_nil)))
  (qs_cons (q_ret (px_tup (pas_cons (px_var 6) (pas_cons (px_var 3) pas_nil))))
  qs_nil))))))
theorem w_law {f : Addr} {cdv : Value} {A : Around} {outer : List PySem.Env} {s : Shared} {H : Hp} {Ex : XK} (hr : Room k (A.deeper (envOfC "law" (defScope st_law) s.heap.objs.size f cdv))) (E : En (cxOf CX0 P w K mg base N_law "law" (defScope st_law) f cdv A outer s H Ex).nox) {f_work : Addr} {fd_work : FuncData} (F_work : Fc5 P w K mg base k sp 10 "work" f_work fd_work P_work) {f_levels : Addr} {fd_levels : FuncData} (F_levels : Fc5 P w K mg base k sp 11 "levels" f_levels fd_levels P_levels) {f_heights : Addr} {fd_heights : FuncData} (F_heights : Fc5 P w K mg base k sp 12 "heights" f_heights fd_heights P_heights) {f_depth : Addr} {fd_depth : FuncData} (F_depth : Fc5 P w K mg base k sp 13 "depth" f_depth fd_depth P_depth) {f_longest_path : Addr} {fd_longest_path : FuncData} (F_longest_path : Fc5 P w K mg base k sp 14 "longest_path" f_longest_path fd_longest_path P_longest_path) {f_is_path : Addr} {fd_is_path : FuncData} (F_is_path : Fc5 P w K mg base k sp 15 "is_path" f_is_path fd_is_path P_is_path) {f_lots : Addr} {fd_lots : FuncData} (F_lots : Fc5 P w K mg base k sp 16 "lots" f_lots fd_lots P_lots) {f_is_apart_set : Addr} {fd_is_apart_set : FuncData} (F_is_apart_set : Fc5 P w K mg base k sp 17 "is_apart_set" f_is_apart_set fd_is_apart_set P_is_apart_set) {f_is_lots : Addr} {fd_is_lots : FuncData} (F_is_lots : Fc5 P w K mg base k sp 18 "is_lots" f_is_lots fd_is_lots P_is_lots) {f_slack : Addr} {fd_slack : FuncData} (F_slack : Fc5 P w K mg base k sp 19 "slack" f_slack fd_slack P_slack) {f_must_in_time : Addr} {fd_must_in_time : FuncData} (F_must_in_time : Fc5 P w K mg base k sp 20 "must_in_time" f_must_in_time fd_must_in_time P_must_in_time) {f_share_of_work : Addr} {fd_share_of_work : FuncData} (F_share_of_work : Fc5 P w K mg base k sp 21 "share_of_work" f_share_of_work fd_share_of_work P_share_of_work) {f_is_deep_paper : Addr} {fd_is_deep_paper : FuncData} (F_is_deep_paper : Fc5 P w K mg base k sp 22 "is_deep_paper" f_is_deep_paper fd_is_deep_paper P_is_deep_paper) {f_deep_paper : Addr} {fd_deep_paper : FuncData} (F_deep_paper : Fc5 P w K mg base k sp 23 "deep_paper" f_deep_paper fd_deep_paper P_deep_paper) {f_reach : Addr} {fd_reach : FuncData} (F_reach : Fc5 P w K mg base k sp 24 "reach" f_reach fd_reach P_reach) {f__law_box : Addr} {fd__law_box : FuncData} (F__law_box : Fc5 P w K mg base k sp 25 "_law_box" f__law_box fd__law_box P__law_box) {f__law_take : Addr} {fd__law_take : FuncData} (F__law_take : Fc5 P w K mg base k sp 26 "_law_take" f__law_take fd__law_take P__law_take) {f__law_cells : Addr} {fd__law_cells : FuncData} (F__law_cells : Fc5 P w K mg base k sp 27 "_law_cells" f__law_cells fd__law_cells P__law_cells) {f__law_of : Addr} {fd__law_of : FuncData} (F__law_of : Fc5 P w K mg base k sp 28 "_law_of" f__law_of fd__law_of P__law_of) {f__law_same : Addr} {fd__law_same : FuncData} (F__law_same : Fc5 P w K mg base k sp 29 "_law_same" f__law_same fd__law_same P__law_same) {f__law_set : Addr} {fd__law_set : FuncData} (F__law_set : Fc5 P w K mg base k sp 31 "_law_set" f__law_set fd__law_set P__law_set) {f__law_above : Addr} {fd__law_above : FuncData} (F__law_above : Fc5 P w K mg base k sp 32 "_law_above" f__law_above fd__law_above P__law_above) {f__law_some : Addr} {fd__law_some : FuncData} (F__law_some : Fc5 P w K mg base k sp 33 "_law_some" f__law_some fd__law_some P__law_some) {f__law_mixed : Addr} {fd__law_mixed : FuncData} (F__law_mixed : Fc5 P w K mg base k sp 34 "_law_mixed" f__law_mixed fd__law_mixed P__law_mixed) {f__law_tall : Addr} {fd__law_tall : FuncData} (F__law_tall : Fc5 P w K mg base k sp 35 "_law_tall" f__law_tall fd__law_tall P__law_tall) {f__law_best_path : Addr} {fd__law_best_path : FuncData} (F__law_best_path : Fc5 P w K mg base k sp 36 "_law_best_path" f__law_best_path fd__law_best_path P__law_best_path) :
    PSs (cxOf CX0 P w K mg base N_law "law" (defScope st_law) f cdv A outer s H Ex).nox (defBody st_law) (trSs (cfg (cxOf CX0 P w K mg base N_law "law" (defScope st_law) f cdv A outer s H Ex).nox sp) ir_law.body) :=
  (qs_cons (q_set E 1 (px_call F__law_box hr (pas_cons (px_call F__law_cells hr (pas_cons (px_var 0) (pas_cons px_int pas_nil))) (pas_cons px_int pas_nil))))
  (qs_cons (q_set E 2 (px_call F__law_of hr (pas_cons (px_var 1) (pas_cons (px_lst (pas_cons px_int (pas_cons px_int (pas_cons px_int (pas_cons px_int (pas_cons px_int (pas_cons px_int (pas_cons px_int pas_nil)))))))) pas_nil))))
  (qs_cons (q_set E 3 (px_call F__law_tall hr (pas_cons (px_var 1) (pas_cons (px_var 2) pas_nil))))
  (qs_cons (q_pars E (pas_cons (px_call F__law_above hr (pas_cons (px_var 3) pas_nil)) (pas_cons (px_lst pas_nil) pas_nil)) (pgs_n E 4 (pgs_n E 5 pgs_0)))
  (qs_cons (q_for E PassesOwn.never (pis_seq (px_var 3)) (pgt_name E 6) (qs_cons (q_app 5 (px_var 5) (px_add px_int (px_max E (px_add (px_lc [("near", 7)] E (pis_seq (px_var 6)) (blkOk_by (by kernel_rfl))  (fun s H C cl fp E => ⟨(pgt_name E 7), pcs_none, (px_ix (px_var 5) (px_var 7))⟩)) (px_lst (pas_cons px_int pas_nil))))))
  qs_nil))
  (qs_cons (q_pars E (pas_cons (px_max E (px_add (px_var 5) (px_lst (pas_cons px_int pas_nil)))) (pas_cons (px_call F__law_mixed hr (pas_cons (px_var 1) (pas_cons (px_var 3) pas_nil))) pas_nil)) (pgs_n E 8 (pgs_n E 9 pgs_0)))
  (qs_cons (q_unp E (px_call F__law_best_path hr (pas_cons (px_var 3) (pas_cons (px_var 5) pas_nil))) (pgs_n E 10 (pgs_n E 11 pgs_0)))
  (qs_cons (q_set E 12 (px_lc [("deed", 13)] E (pis_rng1 E (px_var 2)) (blkOk_by (by kernel_rfl))  (fun s H C cl fp E => ⟨(pgt_name E 13), pcs_none, (px_subt (px_subt (px_add (px_var 8) px_int) (px_ix (px_var 5) (px_var 13))) (px_ix (px_var 11) (px_var 13)))⟩)))
  (qs_cons (q_set E 14 (px_tuple E (px_lc [("level", 15)] E (pis_rng2 E px_int (px_add (px_var 8) px_int)) (blkOk_by (by kernel_rfl))  (fun s H C cl fp E => ⟨(pgt_name E 15), pcs_none, (px_tuple E (px_lc [("deed", 13)] E (pis_rng1 E (px_var 2)) (blkOk_by (by kernel_rfl))  (fun s H C cl fp E => ⟨(pgt_name E 13), (pcs_one (px_eq E (px_ix (px_var 5) (px_var 13)) (px_var 15))), (px_var 13)⟩)))⟩))))
  (qs_cons (q_set E 16 (px_lst (pas_cons (px_call F_work hr (pas_cons (px_var 9) pas_nil)) (pas_cons (px_call F_depth hr (pas_cons (px_var 9) pas_nil)) (pas_cons (px_call F_levels hr (pas_cons (px_var 9) pas_nil)) (pas_cons (px_call F_heights hr (pas_cons (px_var 9) pas_nil)) (pas_cons (px_call F_slack hr (pas_cons (px_var 9) pas_nil)) (pas_cons (px_call F_must_in_time hr (pas_cons (px_var 9) pas_nil)) (pas_cons (px_call F_longest_path hr (pas_cons (px_var 9) pas_nil)) (pas_cons (px_call F_lots hr (pas_cons (px_var 9) pas_nil)) (pas_cons (px_call F_share_of_work hr (pas_cons (px_var 9) pas_nil)) (pas_cons (px_call F_deep_paper hr (pas_cons (px_var 9) pas_nil)) pas_nil))))))))))))
  (qs_cons (q_set E 17 (px_lst (pas_cons (px_var 2) (pas_cons (px_var 8) (pas_cons (px_var 5) (pas_cons (px_var 11) (pas_cons (px_var 12) (pas_cons (px_tuple E (px_lc [("deed", 13)] E (pis_rng1 E (px_var 2)) (blkOk_by (by kernel_rfl))  (fun s H C cl fp E => ⟨(pgt_name E 13), (pcs_one (px_eq E (px_ix (px_var 12) (px_var 13)) px_int)), (px_var 13)⟩))) (pas_cons (px_var 10) (pas_cons (px_var 14) (pas_cons (px_tup (pas_cons (px_var 2) (pas_cons (px_var 8) pas_nil))) (pas_cons (px_tup (pas_cons (px_var 10) (pas_cons (px_var 14) pas_nil))) pas_nil))))))))))))
  (qs_cons (q_if (px_not (px_call F__law_same hr (pas_cons (px_var 16) (pas_cons (px_var 17) pas_nil)))) (qs_cons (q_ret px_bl)
  qs_nil) qs_nil)
  (qs_cons (q_if (px_not (px_call F__law_same hr (pas_cons (px_call F_reach hr (pas_cons (px_var 9) pas_nil)) (pas_cons (px_lc [("deed", 13)] E (pis_rng1 E (px_var 2)) (blkOk_by (by kernel_rfl))  (fun s H C cl fp E => ⟨(pgt_name E 13), pcs_none, (px_tup (pas_cons (px_len E (px_ix (px_var 4) (px_var 13))) (pas_cons (px_len E (px_lc [("row", 6)] E (pis_seq (px_var 4)) (blkOk_by (by kernel_rfl))  (fun s H C cl fp E => ⟨(pgt_name E 6), (pcs_one (px_in E (px_var 13) (px_var 6))), px_int⟩))) pas_nil)))⟩)) pas_nil)))) (qs_cons (q_ret px_bl)
  qs_nil) qs_nil)
  (qs_cons (q_if (px_eq E (px_var 2) px_int) (qs_cons (q_ret (px_call F__law_same hr (pas_cons (px_lst (pas_cons (px_call F_is_deep_paper hr (pas_cons (px_tup pas_nil) (pas_cons (px_tup (pas_cons (px_tup pas_nil) (pas_cons (px_tup pas_nil) pas_nil))) pas_nil))) (pas_cons (px_call F_is_deep_paper hr (pas_cons (px_tup pas_nil) (pas_cons (px_tup (pas_cons (px_tup pas_nil) (pas_cons (px_tup (pas_cons (px_tup pas_nil) pas_nil)) pas_nil))) pas_nil))) (pas_cons (px_call F_is_path hr (pas_cons (px_tup pas_nil) (pas_cons (px_tup pas_nil) pas_nil))) (pas_cons (px_call F_is_lots hr (pas_cons (px_tup pas_nil) (pas_cons (px_tup (pas_cons (px_tup pas_nil) (pas_cons (px_tup pas_nil) pas_nil))) pas_nil))) pas_nil))))) (pas_cons (px_lst (pas_cons px_bl (pas_cons px_bl (pas_cons px_bl (pas_cons px_bl pas_nil))))) pas_nil))))
  qs_nil) qs_nil)
  (qs_cons (q_set E 18 (px_tuple E (px_lc [("level", 15)] E (pis_rng1 E (px_var 8)) (blkOk_by (by kernel_rfl))  (fun s H C cl fp E => ⟨(pgt_name E 15), pcs_none, (px_tuple E (px_lc [("deed", 13)] E (pis_rng1 E (px_var 2)) (blkOk_by (by kernel_rfl))  (fun s H C cl fp E => ⟨(pgt_name E 13), (pcs_one (px_eq E (px_ix (px_var 11) (px_var 13)) (px_subt (px_var 8) (px_var 15)))), (px_var 13)⟩)))⟩))))
  (qs_cons (q_for E PassesOwn.never (pis_seq (px_tup (pas_cons (px_var 14) (pas_cons (px_var 18) pas_nil)))) (pgt_name E 19) (qs_cons (q_if (px_not (px_call F__law_same hr (pas_cons (px_lst (pas_cons (px_call F_is_lots hr (pas_cons (px_var 9) (pas_cons (px_var 19) pas_nil))) (pas_cons (px_call F_is_deep_paper hr (pas_cons (px_var 9) (pas_cons (px_tup (pas_cons (px_var 10) (pas_cons (px_var 19) pas_nil))) pas_nil))) (pas_cons (px_call F_is_deep_paper hr (pas_cons (px_var 9) (pas_cons (px_lst (pas_cons (px_var 10) (pas_cons (px_var 19) pas_nil))) pas_nil))) (pas_cons (px_call F_is_deep_paper hr (pas_cons (px_var 9) (pas_cons (px_tup (pas_cons (px_slc (px_var 10) (pos_some px_int) pos_none) (pas_cons (px_var 19) pas_nil))) pas_nil))) pas_nil))))) (pas_cons (px_lst (pas_cons px_bl (pas_cons px_bl (pas_cons px_bl (pas_cons px_bl pas_nil))))) pas_nil)))) (qs_cons (q_ret px_bl)
  qs_nil) qs_nil)
  (qs_cons (q_pars E (pas_cons (px_call F__law_take hr (pas_cons (px_var 1) (pas_cons (px_var 2) pas_nil))) (pas_cons (px_call F__law_take hr (pas_cons (px_var 1) (pas_cons (px_var 8) pas_nil))) pas_nil)) (pgs_n E 13 (pgs_n E 20 pgs_0)))
  (qs_cons (q_set E 21 (px_tuple E (px_lc [("at", 23), ("lot", 24)] E (pis_enum E (px_var 19)) (blkOk_by (by kernel_rfl))  (fun s H C cl fp E => ⟨(pgt_tup E (pgs_n E 23 (pgs_n E 24 pgs_0))), pcs_none, (px_call F__law_set hr (pas_cons (px_add (px_lc [("far", 22)] E (pis_seq (px_var 24)) (blkOk_by (by kernel_rfl))  (fun s H C cl fp E => ⟨(pgt_name E 22), (pcs_one (px_ne E (px_var 22) (px_var 13))), (px_var 22)⟩)) (px_ite (px_eq E (px_var 23) (px_var 20)) (px_lst (pas_cons (px_var 13) pas_nil)) (px_lst pas_nil))) pas_nil))⟩))))
  (qs_cons (q_set E 25 (px_eq E (px_lc [("lot", 24)] E (pis_seq (px_var 21)) (blkOk_by (by kernel_rfl))  (fun s H C cl fp E => ⟨(pgt_name E 24), (pcs_one (px_ne E (px_lc [("far", 22)] E (pis_seq (px_var 24)) (blkOk_by (by kernel_rfl))  (fun s H C cl fp E => ⟨(pgt_name E 22), (pcs_one (px_ne E (px_lc [("near", 7)] E (pis_seq (px_var 24)) (blkOk_by (by kernel_rfl))  (fun s H C cl fp E => ⟨(pgt_name E 7), (pcs_one (px_in E (px_var 7) (px_ix (px_var 4) (px_var 22)))), (px_var 7)⟩)) (px_lst pas_nil))), px_int⟩)) (px_lst pas_nil))), px_int⟩)) (px_lst pas_nil)))
  (qs_cons (q_if (px_not (px_call F__law_same hr (pas_cons (px_lst (pas_cons (px_call F_is_lots hr (pas_cons (px_var 9) (pas_cons (px_var 21) pas_nil))) (pas_cons (px_call F_is_deep_paper hr (pas_cons (px_var 9) (pas_cons (px_tup (pas_cons (px_var 10) (pas_cons (px_var 21) pas_nil))) pas_nil))) pas_nil))) (pas_cons (px_lst (pas_cons (px_var 25) (pas_cons (px_var 25) pas_nil))) pas_nil)))) (qs_cons (q_ret px_bl)
  qs_nil) qs_nil)
  (qs_cons (q_set E 26 (px_add (px_add (px_slc (px_var 19) pos_none (pos_some (px_var 20))) (px_tup (pas_cons (px_call F__law_set hr (pas_cons (px_add (px_ix (px_var 19) (px_var 20)) (px_tup (pas_cons (px_var 13) pas_nil))) pas_nil)) pas_nil))) (px_slc (px_var 19) (pos_some (px_add (px_var 20) px_int)) pos_none)))
  (qs_cons (q_if (px_not (px_call F__law_same hr (pas_cons (px_call F_is_lots hr (pas_cons (px_var 9) (pas_cons (px_var 26) pas_nil))) (pas_cons (px_in E (px_var 13) (px_ix (px_var 19) (px_var 20))) pas_nil)))) (qs_cons (q_ret px_bl)
  qs_nil) qs_nil)
  qs_nil))))))))
  (qs_cons (q_for E PassesOwn.never (pis_rng1 E px_int) (pgt_name E 27) (qs_cons (q_set E 28 (px_call F__law_set hr (pas_cons (px_call F__law_some hr (pas_cons (px_var 1) (pas_cons (let h := (px_var 2); px_lrng1 E h (prg_1 rfl E.range h.v)) (pas_cons (px_add px_int (px_call F__law_take hr (pas_cons (px_var 1) (pas_cons px_int pas_nil)))) pas_nil)))) pas_nil)))
  (qs_cons (q_set E 29 (px_eq E (px_lc [("far", 22)] E (pis_seq (px_var 28)) (blkOk_by (by kernel_rfl))  (fun s H C cl fp E => ⟨(pgt_name E 22), (pcs_one (px_ne E (px_lc [("near", 7)] E (pis_seq (px_var 28)) (blkOk_by (by kernel_rfl))  (fun s H C cl fp E => ⟨(pgt_name E 7), (pcs_one (px_in E (px_var 7) (px_ix (px_var 4) (px_var 22)))), (px_var 7)⟩)) (px_lst pas_nil))), (px_var 22)⟩)) (px_lst pas_nil)))
  (qs_cons (q_set E 6 (px_eq E (px_lc [("near", 7), ("far", 22)] E (pis_zip E (px_var 28) (px_slc (px_var 28) (pos_some px_int) pos_none)) (blkOk_by (by kernel_rfl))  (fun s H C cl fp E => ⟨(pgt_tup E (pgs_n E 7 (pgs_n E 22 pgs_0))), (pcs_one (px_nin E (px_var 7) (px_ix (px_var 4) (px_var 22)))), px_int⟩)) (px_lst pas_nil)))
  (qs_cons (q_set E 16 (px_lst (pas_cons (px_call F_is_apart_set hr (pas_cons (px_var 9) (pas_cons (px_var 28) pas_nil))) (pas_cons (px_call F_is_path hr (pas_cons (px_var 9) (pas_cons (px_var 28) pas_nil))) (pas_cons (px_call F_is_apart_set hr (pas_cons (px_var 9) (pas_cons (px_revT (px_var 28)) pas_nil))) (pas_cons (px_call F_is_path hr (pas_cons (px_var 9) (pas_cons (px_add (px_var 28) (px_slc (px_var 28) (pos_some (px_neg px_int)) pos_none)) pas_nil))) (pas_cons (px_call F_is_path hr (pas_cons (px_var 9) (pas_cons (px_evn (px_var 10)) pas_nil))) pas_nil)))))))
  (qs_cons (q_if (px_not (px_call F__law_same hr (pas_cons (px_var 16) (pas_cons (px_lst (pas_cons (px_var 29) (pas_cons (px_var 6) (pas_cons (px_b (pb_and (px_var 29) (pb_and1 (px_eq E (px_len E (px_var 28)) px_int)))) (pas_cons px_bl (pas_cons px_bl pas_nil)))))) pas_nil)))) (qs_cons (q_ret px_bl)
  qs_nil) qs_nil)
  qs_nil))))))
  (qs_cons (q_set E 30 (px_ite (px_gt (px_var 2) px_int) (px_tup (pas_cons px_bl pas_nil)) (px_tup (pas_cons px_bl pas_nil))))
  (qs_cons (q_ret (px_call F__law_same hr (pas_cons (px_lst (pas_cons (px_call F_is_path hr (pas_cons (px_var 9) (pas_cons (px_var 30) pas_nil))) (pas_cons (px_call F_is_apart_set hr (pas_cons (px_var 9) (pas_cons (px_var 30) pas_nil))) (pas_cons (px_call F_is_lots hr (pas_cons (px_var 9) (pas_cons (px_add (px_var 14) (px_tup (pas_cons (px_tup pas_nil) pas_nil))) pas_nil))) pas_nil)))) (pas_cons (px_lst (pas_cons px_bl (pas_cons px_bl (pas_cons px_bl pas_nil)))) pas_nil))))
  qs_nil)))))))))))))))))))
end
end W02
end

section
set_option Elab.async false
set_option linter.all false
set_option maxRecDepth 100000
/-! the common functions (from k01, by mkT.py) -/

section
/-! k01: what its functions answer (1). -/
namespace W02
open PySem L2 PD

theorem s_is_number (i : Int) : Ret tab 1 0 [oI i] (oB true) := fun n => ⟨_, rfl, rfl⟩
theorem s_is_below (i m : Int) : Ret tab 2 1 [oI i, oI m] (oB (decide (0 ≤ i) && decide (i < m))) := by
  refine ret_of (r := ir_is_below) rfl fun n => ?_
  refine ⟨_, xs_ret (ev_andB (p := true) (ev_ret (s_is_number i) (Nat.le_refl _) (eps_cons ep_var eps_nil)) fun _ => ev_chain (ep_d rfl) ep_var ep_var rfl fun _ => rfl), rfl⟩
/-- ascending -/
def asc (xs : List Int) : Bool := (xs.zip (xs.drop 1)).all fun p => decide (p.1 < p.2)
theorem small_size {n : Nat} (h : n ≤ 100000) : n ≤ sizeLine := by rw [sizeLine_eq]; omega
theorem zipR_ints (xs ys : List Int) : zipR ((xs.map PyData.int).zip (ys.map PyData.int)) = (xs.zip ys).map fun p => Item.row [.int p.1, .int p.2] := by
  unfold zipR
  rw [List.zip_map, List.map_map]
  rfl
theorem cutD_tail (xs : List Int) (h : xs.length ≤ 100000) : slcf (.d (dT xs)) (some 1) none = some (.d (dT (xs.drop 1))) := by
  show some (O.d (.tuple (cutD (xs.map PyData.int) (some 1) none))) = _
  unfold cutD
  have e1 : HT.sIx (xs.map PyData.int).length 0 (some 1) = min 1 xs.length := by
    rw [List.length_map]
    unfold HT.sIx
    simp
  have e2 : HT.sIx (xs.map PyData.int).length (xs.map PyData.int).length none = xs.length := by
    rw [List.length_map]
    rfl
  rw [e1, e2]
  congr 3
  cases xs with
  | nil => rfl
  | cons x xs =>
    have : min 1 (x :: xs).length = 1 := by simp
    rw [this]
    show List.take ((x :: xs).length - 1) ((x :: xs).map PyData.int |>.drop 1) = _
    rw [List.map_cons, List.drop_succ_cons, List.drop_zero, List.drop_succ_cons, List.drop_zero, List.take_of_length_le]
    simp
theorem s_set_of {x : D} (xs : List Int) (hx : asSeq (.d x) = some (xs.map .int)) (h1 : xs.length + 1 < 4096) (h2 : (sset xs).length < 64) : Ret tab 1 4 [.d x] (.d (dT (sset xs))) := by
  refine ret_of (r := ir_set_of) rfl fun n => ?_
  refine ⟨_, xs_ret (ev_fn1 (ep_of (ev_fn1 ep_var (sset_fn hx h1 h2))) ?_), rfl⟩
  rw [toD_map]
  exact tuple_map
/-- a row in a list or a tuple -/
def SoftR (y : D) (r : List Int) : Prop := y = dL r ∨ y = dT r
theorem SoftR.seq {y : D} {r : List Int} (h : SoftR y r) : asSeq (.d y) = some (r.map .int) := by rcases h with rfl | rfl <;> rfl
inductive SoftRs : List D → List (List Int) → Prop
  | nil : SoftRs [] []
  | cons {y : D} {r : List Int} {ys : List D} {w : List (List Int)} : SoftR y r → SoftRs ys w → SoftRs (y :: ys) (r :: w)
/-- a web in lists and tuples -/
def Soft (x : D) (w : List (List Int)) : Prop := ∃ ys, (x = .list ys ∨ x = .tuple ys) ∧ SoftRs ys w
theorem SoftRs.hard : ∀ w : List (List Int), SoftRs (w.map dT) w
  | [] => .nil
  | r :: w => .cons (.inr rfl) (SoftRs.hard w)
theorem Soft.hard (w : List (List Int)) : Soft (dW w) w := ⟨_, .inr rfl, SoftRs.hard w⟩
theorem s_tuple_int (i : Int) : Ret tab 1 3 [oI i] (oI i) := by
  refine ret_of (r := ir_tuple_of) rfl fun n => ?_
  exact ⟨_, xs_if_no (et_bl (ev_isiT (ty := .int) ep_var rfl)) (xs_retD rfl), rfl⟩
theorem s_tuple_row {y : D} (r : List Int) (h : SoftR y r) (hl : r.length ≤ 1000) : Ret tab 2 3 [.d y] (.d (dT r)) := by
  refine ret_of (r := ir_tuple_of) rfl fun n => ?_
  have hs : semS (callF tab (n + 1)) (.seq (.var 0)) [some (.d y), none] = some ((((r.map fun i => Item.one (.int i)), none) : Items), [some (.d y), none]) := by
    refine (es_varD (i := 0) (env := [some (.d y), none]) (xs := r.map .int) (x := y) rfl h.seq).trans ?_
    rw [List.map_map]
    rfl
  have ty : ∃ t, tyOf y = some t ∧ isiT t [.list, .tuple] = true := by rcases h with rfl | rfl; exact ⟨.list, rfl, rfl⟩; exact ⟨.tuple, rfl, rfl⟩
  obtain ⟨t, ht, hi⟩ := ty
  have hc := ev_isiT (C := callF tab (n + 1)) (ts := [.list, .tuple]) (ep_var (i := 0) (x := y) (env := [some (.d y), none]) rfl) ht
  rw [hi] at hc
  refine ⟨_, xs_if_ret (et_bl hc) (xs_ret (ev_fn1 (ep_of (ev_compM (g := fun i => [oI i]) hs rfl (fun i _ => turn_all rfl (ev_ret (s_tuple_int i) (Nat.le_refl _) (eps_cons ep_var eps_nil)) rfl) ?_ rfl)) ?_)), rfl⟩
  · rw [flatMap_one, List.length_map]
    exact small_size (by omega)
  · rw [flatMap_one, toD_map]
    exact tuple_map
theorem SoftRs.length {ys : List D} {w : List (List Int)} (h : SoftRs ys w) : ys.length = w.length := by
  induction h with
  | nil => rfl
  | cons _ _ ih => rw [List.length_cons, List.length_cons, ih]
/-- the rows beside their numbers -/
theorem SoftRs.zip {ys : List D} {w : List (List Int)} (h : SoftRs ys w) : ys = (ys.zip w).map Prod.fst ∧ w = (ys.zip w).map Prod.snd ∧ ∀ p ∈ ys.zip w, SoftR p.1 p.2 ∧ p.2 ∈ w := by
  induction h with
  | nil => exact ⟨rfl, rfl, fun p hp => absurd hp List.not_mem_nil⟩
  | cons h1 h2 ih =>
    obtain ⟨a1, a2, a3⟩ := ih
    refine ⟨by rw [List.zip_cons_cons, List.map_cons, ← a1], by rw [List.zip_cons_cons, List.map_cons, ← a2], fun p hp => ?_⟩
    rw [List.zip_cons_cons] at hp
    rcases List.mem_cons.mp hp with rfl | hp
    · exact ⟨h1, List.mem_cons_self⟩
    · exact ⟨(a3 p hp).1, List.mem_cons_of_mem _ (a3 p hp).2⟩
theorem s_tuple_web {x : D} (w : List (List Int)) (h : Soft x w) (hl : w.length ≤ 1000) (hr : ∀ r ∈ w, r.length ≤ 1000) : Ret tab 3 3 [.d x] (.d (dW w)) := by
  refine ret_of (r := ir_tuple_of) rfl fun n => ?_
  obtain ⟨ys, hx, hw⟩ := h
  obtain ⟨z1, z2, z3⟩ := hw.zip
  have hsq : asSeq (.d x) = some ys := by rcases hx with rfl | rfl <;> rfl
  have hs : semS (callF tab (n + 2)) (.seq (.var 0)) [some (.d x), none] = some (((((ys.zip w).map fun p => Item.one p.1), none) : Items), [some (.d x), none]) := by
    refine (es_varD (i := 0) (env := [some (.d x), none]) (xs := ys) (x := x) rfl hsq).trans ?_
    conv => lhs; rw [z1]
    rw [List.map_map]
    rfl
  have ty : ∃ t, tyOf x = some t ∧ isiT t [.list, .tuple] = true := by rcases hx with rfl | rfl; exact ⟨.list, rfl, rfl⟩; exact ⟨.tuple, rfl, rfl⟩
  obtain ⟨t, ht, hi⟩ := ty
  have hc := ev_isiT (C := callF tab (n + 2)) (ts := [.list, .tuple]) (ep_var (i := 0) (x := x) (env := [some (.d x), none]) rfl) ht
  rw [hi] at hc
  refine ⟨_, xs_if_ret (et_bl hc) (xs_ret (ev_fn1 (ep_of (ev_compM (g := fun p => [O.d (dT p.2)]) hs rfl (fun p hp => turn_all rfl (ev_ret (s_tuple_row p.2 (z3 p hp).1 (hr _ (z3 p hp).2)) (Nat.le_refl _) (eps_cons ep_var eps_nil)) rfl) ?_ rfl)) ?_)), rfl⟩
  · rw [flatMap_one, List.length_map, List.length_zip]
    exact small_size (by omega)
  · rw [flatMap_one, toD_map]
    show some (O.d (PyData.tuple ((ys.zip w).map fun p => dT p.2))) = some (.d (.tuple (w.map dT)))
    conv => rhs; rw [z2]
    rw [List.map_map]
    rfl
end W02
end

section
/-! k01: what its functions answer (2): the closure. -/
namespace W02
open PySem L2 PD WM

/-- rows as an owned list of tuples -/
abbrev oW (w : List (List Int)) : List O := w.map fun r => O.d (dT r)
theorem toD_mk (xs : List Int) : O.toD (mkL (xs.map .int)) = dL xs := by
  unfold mkL
  rw [List.map_map]
  exact toD_map _ xs
theorem opAdd_LL (xs ys : List Int) (h : xs.length + ys.length ≤ 100000) : op2f .add (.d (dL xs)) (.d (dL ys)) = some (mkL ((xs ++ ys).map .int)) := by
  show (match asInt (O.d (dL xs)), asInt (O.d (dL ys)) with
    | some i, some j => some (oInt (i + j))
    | _, _ => guardB (decide ((xs.map PyData.int).length + (ys.map PyData.int).length ≤ sizeLine)) (some (mkL (xs.map PyData.int ++ ys.map PyData.int)))) = _
  rw [List.length_map, List.length_map, List.map_append]
  show guardB (decide (xs.length + ys.length ≤ sizeLine)) _ = _
  rw [decide_eq_true (small_size h)]
  rfl
theorem flatMap_nat {α β : Type} (f : α → β) (g : Int → List α) (r : List Int) : (r.flatMap fun near => (g near).flatMap fun a => [f a]) = (r.flatMap g).map f := by
  induction r with
  | nil => rfl
  | cons x xs ih => rw [List.flatMap_cons, List.flatMap_cons, List.map_append, ih, flatMap_one]
theorem snoc_map {α β : Type} (f : α → β) (xs : List α) (x : α) : xs.map f ++ [f x] = (xs ++ [x]).map f := by rw [List.map_append]; rfl
theorem s_all_above {x : D} {w : List (List Int)} (hx : Soft x w) (hw : Web w) : Ret tab 4 7 [.d x] (.lst (oW (ab w))) := by
  refine ret_of (r := ir_all_above) rfl fun n => ?_
  have hlen := hw.len
  have hs : evSrcF (callF tab (n + 3)) (.seq (.call 3 [.var 0])) [some (.d x), some (.lst []), none, none, none] = some (((w.map fun r => Item.one (dT r)), none), [some (.d x), some (.lst []), none, none, none]) := by
    refine (es_seq (ev_ret (s_tuple_web w hx (by omega) fun r hr => by have := hw.mem hr; omega) (Nat.le_refl _) (eps_cons ep_var eps_nil)) (xs := w.map dT) rfl).trans ?_
    rw [List.map_map]
    rfl
  obtain ⟨env1, h1, last, h2⟩ := for_inv (I := fun k env => ∃ last, env = [some (.d x), some (.lst (oW (ab (w.take k)))), last, none, none]) (f := fun x e => match stTg (.name 2) x e with
      | some e1 => exs (callF tab (n + 3)) [false] [.app 1 (.call 4 [(.op2 .add (.fn .list [(.var 2)]) (.comp2 (.var 4) (.name 3) (.seq (.var 2)) none (.name 4) (.seq (.op2 .ix (.var 1) (.var 3))) none [3, 4] [4]))])] e1
      | none => none) (w.map fun r => Item.one (dT r)) 0 [some (.d x), some (.lst []), none, none, none] ⟨none, rfl⟩ fun k it env hk hi => by
    rw [List.getElem?_map] at hk
    cases hr : w[k]? with
    | none => rw [hr] at hk; cases hk
    | some r =>
      rw [hr] at hk
      cases hk
      have hkl : k < w.length := by
        by_cases q : k < w.length
        · exact q
        · rw [List.getElem?_eq_none (by omega)] at hr; cases hr
      have er := rw_some hr
      rw [Nat.zero_add] at hi ⊢
      obtain ⟨last, rfl⟩ := hi
      generalize hf : ab (w.take k) = found
      have hfl : found.length = k := by rw [← hf, ab_len, List.length_take]; omega
      refine ⟨[some (.d x), some (.lst (oW found ++ [.d (dT (clRow found r))])), some (.d (dT r)), none, none], ?_, some (.d (dT r)), by rw [ab_take w k r hr, hf, snoc_map]⟩
      have hb := (hw.row k r hr).bd
      have hin : (clIn found r).length ≤ 3600 := by
        have := clIn_len hw hkl
        rw [hf, er] at this
        exact this
      have hcl : (clRow found r).length ≤ 60 := by
        have := clRow_len hw hkl
        rw [hf, er] at this
        exact this
      have hcomp : EV (callF tab (n + 3)) (.comp2 (.var 4) (.name 3) (.seq (.var 2)) none (.name 4) (.seq (.op2 .ix (.var 1) (.var 3))) none [3, 4] [4]) [some (.d x), some (.lst (oW found)), some (.d (dT r)), none, none]
          (.lst (r.flatMap fun near => (rw' found near.toNat).flatMap fun a => [oI a])) [some (.d x), some (.lst (oW found)), some (.d (dT r)), none, none] := by
        refine ev_comp2M (xs := r) (emb := fun i => Item.one (.int i)) (w := none) ?_ rfl (fun near hn => ?_) ?_ rfl
        · refine (es_varD (i := 2) (env := [some (.d x), some (.lst (oW found)), some (.d (dT r)), none, none]) (xs := r.map .int) rfl rfl).trans ?_
          rw [List.map_map]
          rfl
        · have b := hb near hn
          refine turn2_all (env1 := [some (.d x), some (.lst (oW found)), some (.d (dT r)), some (oI near), none]) (ys := rw' found near.toNat) (emb := fun i => Item.one (.int i)) (w := none) rfl ?_ rfl (fun a ha => turn_all rfl ev_var rfl) rfl
          refine (es_seq (o := .d (dT (rw' found near.toNat))) (xs := (rw' found near.toNat).map .int) (ev_op2 (ep_own (os := oW found) rfl (by rw [datas_map]; rfl)) ep_var (ix_nat (f := dT) (xs := found) (k := near.toNat) (asSeq_map dT found) (by omega) (get_some (by omega)))) rfl).trans ?_
          rw [List.map_map]
          rfl
        · rw [flatMap_nat (fun a => oI a) (fun near => rw' found near.toNat), List.length_map]
          unfold clIn at hin
          rw [List.length_append] at hin
          exact small_size (by omega)
      show exs _ _ _ _ = _
      refine xs_app (os := oW found) (os1 := oW found) (o := .d (dT (clRow found r))) rfl (ev_ret (k := 3) (s_set_of (x := dL (clIn found r)) (clIn found r) rfl (by omega) (by unfold clRow at hcl; omega)) (by decide) (eps_cons ?_ eps_nil)) rfl ?_ xs_nil
      · have hadd := ev_op2 (op := .add) (ep_of (ev_fn1 (f := .list) (e := .var 2) (env := [some (.d x), some (.lst (oW found)), some (.d (dT r)), none, none]) (C := callF tab (n + 3)) (x := .d (dT r)) (o := mkL (r.map .int)) ep_var rfl)) (ep_of hcomp) (z := mkL ((clIn found r).map .int)) (by
          rw [toD_mk, flatMap_nat (fun a => oI a) (fun near => rw' found near.toNat), toD_map]
          refine opAdd_LL r _ ?_
          unfold clIn at hin
          rw [List.length_append] at hin
          omega)
        have := ep_of hadd
        rw [toD_mk] at this
        exact this
      · show (found.map _).length < sizeLine
        rw [List.length_map, sizeLine_eq]
        omega
  rw [Nat.zero_add, List.length_map, List.take_length] at h2
  refine ⟨_, xs_asg (o := .lst []) rfl (xs_for (env1 := [some (.d x), some (.lst []), none, none, none]) hs h1 (by rw [h2]; exact xs_retV rfl)), rfl⟩
end W02
end

section
/-! k01: what its functions answer (3). -/
namespace W02
open PySem L2 PD WM

theorem smallI_nat {n : Nat} (h : n ≤ 1000000) : smallI (n : Int) = true := by
  unfold smallI
  simp only [Bool.and_eq_true, decide_eq_true_eq]
  omega
theorem es_rngN {C : CallT} {e : IE} {env : PD.Env} {n : Nat} (h : EV C e env (oI (n : Nat)) env) (hn : n ≤ 1000000) : semS C (.rng1 e) env = some ((((List.range n).map fun k => Item.one (.int (k : Nat))), none), env) := by
  refine (es_rng1 h (smallI_nat hn)).trans ?_
  rw [rngV_map]
  rfl
theorem Soft.seq {x : D} {w : List (List Int)} (h : Soft x w) : ∃ ys, asSeq (.d x) = some ys ∧ SoftRs ys w := by
  obtain ⟨ys, hx, hr⟩ := h
  exact ⟨ys, by rcases hx with rfl | rfl <;> rfl, hr⟩
theorem Soft.len {x : D} {w : List (List Int)} (h : Soft x w) : fnf .len [.d x] = some (oI (w.length : Nat)) := by
  obtain ⟨ys, hs, hr⟩ := h.seq
  show (match asSeq (.d x) with
    | some xs => some (oInt xs.length)
    | none => _) = _
  rw [hs]
  show some (oInt (ys.length : Nat)) = _
  rw [hr.length]
  rfl
/-- who lies below -/
def blw (w : List (List Int)) (own : Nat) : List Int := ((List.range w.length).filter fun d => decide ((own : Int) ∈ rw' (ab w) d)).map fun d => ((d : Nat) : Int)
def bl (w : List (List Int)) : List (List Int) := (List.range w.length).map (blw w)
theorem len_oW {w : List (List Int)} {C : CallT} {env : PD.Env} {i : Nat} (h : look env i = some (.lst (oW w))) : EV C (.fn .len [.var i]) env (oI (w.length : Nat)) env :=
  ev_fn1 (ep_own h (by rw [datas_map]; rfl)) (len_map (asSeq_map dT w))
theorem ix_oW {w : List (List Int)} {C : CallT} {env : PD.Env} {i j : Nat} {z : Int} (h : look env i = some (.lst (oW w))) (hj : look env j = some (oI z)) (h0 : 0 ≤ z) (h1 : z < w.length) : EV C (.op2 .ix (.var i) (.var j)) env (.d (dT (rw' w z.toNat))) env :=
  ev_op2 (ep_own h (by rw [datas_map]; rfl)) (ep_var hj) (ix_nat (asSeq_map dT w) (k := z.toNat) (by omega) (get_some (by omega)))
theorem s_all_below {x : D} {w : List (List Int)} (hx : Soft x w) (hw : Web w) : Ret tab 5 8 [.d x] (.lst (oW (bl w))) := by
  refine ret_of (r := ir_all_below) rfl fun n => ?_
  have hlen := hw.len
  have hal := ab_len w
  have inner : ∀ (own : Nat), EV (callF tab (n + 4)) (.fn .tuple [(.comp (.var 2) (.name 2) (.rng1 (.fn .len [(.var 1)])) (some (.op2 .isin (.var 3) (.op2 .ix (.var 1) (.var 2)))) [2])]) [some (.d x), some (.lst (oW (ab w))), none, some (oI (own : Nat))] (.d (dT (blw w own))) [some (.d x), some (.lst (oW (ab w))), none, some (oI (own : Nat))] := fun own => by
    refine ev_fn1 (ep_of (ev_compM (xs := List.range w.length) (emb := fun k => Item.one (.int (k : Nat))) (g := fun d => if decide ((own : Int) ∈ rw' (ab w) d) = true then [oI (d : Nat)] else []) (w := none) ?_ rfl (fun d hd => ?_) ?_ rfl)) ?_
    · rw [← hal]
      exact es_rngN (len_oW rfl) (by omega)
    · have hd := List.mem_range.mp hd
      refine turn_if (env1 := [some (.d x), some (.lst (oW (ab w))), some (oI (d : Nat)), some (oI (own : Nat))]) rfl (et_bl (ev_op2 ep_var (ep_d (ix_oW (w := ab w) (z := (d : Nat)) rfl rfl (by omega) (by omega))) (in_int (xs := rw' (ab w) d) _ rfl))) (fun _ => ev_var) rfl
    · rw [flatMap_if, List.length_map]
      exact small_size (Nat.le_trans (List.length_filter_le ..) (by rw [List.length_range]; omega))
    · rw [flatMap_if, toD_map]
      unfold blw
      show some (O.d (PyData.tuple _)) = some (O.d (.tuple _))
      rw [List.map_map]
      rfl
  refine ⟨_, xs_asg (ev_ret (s_all_above hx hw) (Nat.le_refl _) (eps_cons ep_var eps_nil)) (xs_ret (o := .lst (oW (bl w))) (env1 := [some (.d x), some (.lst (oW (ab w))), none, none]) ?_), rfl⟩
  have := ev_compM (C := callF tab (n + 4)) (env := [some (.d x), some (.lst (oW (ab w))), none, none]) (elt := .fn .tuple [(.comp (.var 2) (.name 2) (.rng1 (.fn .len [(.var 1)])) (some (.op2 .isin (.var 3) (.op2 .ix (.var 1) (.var 2)))) [2])]) (tg := .name 3) (src := .rng1 (.fn .len [(.var 1)])) (cond := none) (vs := [3])
    (xs := List.range w.length) (emb := fun k => Item.one (.int (k : Nat))) (g := fun d => [O.d (dT (blw w d))]) (w := none) (by rw [← hal]; exact es_rngN (len_oW rfl) (by omega)) rfl (fun d hd => turn_all rfl (inner d) rfl) (by
      rw [flatMap_one, List.length_map, List.length_range]
      exact small_size (by omega)) rfl
  rw [flatMap_one] at this
  have e : oW (bl w) = (List.range w.length).map fun d => O.d (dT (blw w d)) := by
    unfold oW bl
    rw [List.map_map]
    rfl
  rw [e]
  exact this
theorem bl_len (w : List (List Int)) : (bl w).length = w.length := by unfold bl; rw [List.length_map, List.length_range]
theorem bl_get {w : List (List Int)} {k : Nat} (h : k < w.length) : rw' (bl w) k = blw w k := by
  have : (bl w)[k]? = some (blw w k) := by
    unfold bl
    rw [List.getElem?_map, List.getElem?_range h]
    rfl
  exact rw_some this
end W02
end

section
/-! k01: what its functions answer (4). -/
namespace W02
open PySem L2 PD WM

/-- a web's rows by number -/
theorem Soft.at {x : D} {w : List (List Int)} (h : Soft x w) : ∃ yk : Nat → D, asSeq (.d x) = some ((List.range w.length).map yk) ∧ ∀ k, k < w.length → SoftR (yk k) (rw' w k) := by
  obtain ⟨ys, hs, hr⟩ := h.seq
  have gen : ∀ (ys : List D) (w : List (List Int)), SoftRs ys w → ∃ yk : Nat → D, ys = (List.range w.length).map yk ∧ ∀ k, k < w.length → SoftR (yk k) (rw' w k) := by
    intro ys w h
    induction h with
    | nil => exact ⟨fun _ => .none, rfl, fun k hk => by simp at hk⟩
    | @cons y r ys w h1 h2 ih =>
      obtain ⟨yk, e, hk⟩ := ih
      refine ⟨fun k => match k with
        | 0 => y
        | k + 1 => yk k, ?_, fun k hk' => ?_⟩
      · rw [List.length_cons, List.range_succ_eq_map, List.map_cons, List.map_map, e]
        rfl
      · cases k with
        | zero => exact h1
        | succ k => exact hk k (by simpa using hk')
  obtain ⟨yk, e, hk⟩ := gen ys w hr
  exact ⟨yk, by rw [hs, e], hk⟩
theorem enumR_range (f : Nat → D) (n : Nat) : enumR ((List.range n).map f) = (List.range n).map fun k => Item.row [.int (k : Nat), f k] := by
  unfold enumR
  apply List.ext_getElem?
  intro i
  rw [List.getElem?_map, List.getElem?_zipIdx, List.getElem?_map, List.getElem?_map]
  by_cases h : i < n
  · rw [List.getElem?_range h]
    simp
  · rw [List.getElem?_eq_none (by simpa using h)]
    rfl
theorem es_enumN {C : CallT} {e : IE} {env : PD.Env} {o : O} {f : Nat → D} {n : Nat} (h : EV C e env o env) (hs : asSeq (.d o.toD) = some ((List.range n).map f)) : semS C (.enum e) env = some ((((List.range n).map fun k => Item.row [.int (k : Nat), f k]), none), env) := by
  refine (es_enum h hs).trans ?_
  rw [enumR_range]
/-- the numbers that p picks -/
def pick (n : Nat) (p : Nat → Bool) : List Int := ((List.range n).filter p).map fun d => ((d : Nat) : Int)
theorem pick_tup (n : Nat) (p : Nat → Bool) : fnf .tuple [.d (O.toD (.lst ((List.range n).flatMap fun k => if p k = true then [oI (k : Nat)] else [])))] = some (.d (dT (pick n p))) := by
  rw [flatMap_if, toD_map]
  show some (O.d (PyData.tuple _)) = some (O.d (.tuple _))
  unfold pick
  rw [List.map_map]
  rfl
theorem pick_size {n : Nat} {p : Nat → Bool} (h : n ≤ 100000) : ((List.range n).flatMap fun k => if p k = true then [oI (k : Nat)] else []).length ≤ sizeLine := by
  rw [flatMap_if, List.length_map]
  exact small_size (Nat.le_trans (List.length_filter_le ..) (by rw [List.length_range]; exact h))
end W02
end

section
/-! k01: what its functions answer (5): the bare web. -/
namespace W02
open PySem L2 PD WM

def furIn (R : List (List Int)) (row : List Int) : List Int := row.flatMap fun near => rw' R near.toNat
def further (R : List (List Int)) (row : List Int) : List Int := sset (furIn R row)
def bareRow (R : List (List Int)) (row : List Int) : List Int := row.filter fun near => !decide (near ∈ further R row)
def bare (w : List (List Int)) : List (List Int) := (ab w).map (bareRow (ab w))
theorem flat_len {w : List (List Int)} (hw : Web w) {k : Nat} (hk : k < w.length) (R : List (List Int)) (hR : Web R) (hl : R.length = w.length) : (furIn R (rw' w k)).length ≤ 3600 := by
  unfold furIn
  have r := (hw.rowOk hk).len
  have l := hw.len
  have gen : ∀ l : List Int, (∀ a ∈ l, (rw' R a.toNat).length ≤ 60) → (l.flatMap fun near => rw' R near.toNat).length ≤ 60 * l.length := by
    intro l
    induction l with
    | nil => intro _; exact Nat.zero_le _
    | cons a l ih =>
      intro h
      rw [List.flatMap_cons, List.length_append, List.length_cons]
      have := h a List.mem_cons_self
      have := ih fun b hb => h b (List.mem_cons_of_mem _ hb)
      omega
  have := gen (rw' w k) fun a ha => by
    have b := (hw.rowOk hk).bd a ha
    have := (hR.rowOk (k := a.toNat) (by omega)).len
    have := hR.len
    omega
  have : 60 * (rw' w k).length ≤ 60 * 60 := Nat.mul_le_mul_left _ (by omega)
  omega
/-- a set of numbers below 60 -/
theorem sset_small {xs : List Int} (h : ∀ a ∈ xs, 0 ≤ a ∧ a < 60) : (sset xs).length < 64 := by
  have := len_bound (sset xs) 0 60 (sset_lt xs) fun a ha => h a ((sset_mem xs a).mp ha)
  omega
theorem furIn_bd {w : List (List Int)} (hw : Web w) {k : Nat} (hk : k < w.length) (R : List (List Int)) (hR : Web R) (hl : R.length = w.length) : ∀ a ∈ furIn R (rw' w k), 0 ≤ a ∧ a < 60 := fun a ha => by
  obtain ⟨near, hn, ha⟩ := List.mem_flatMap.mp ha
  have b := (hw.rowOk hk).bd near hn
  have c := (hR.rowOk (k := near.toNat) (by omega)).bd a ha
  have := hw.len
  omega
theorem opt_get {w : List (List Int)} {α : Type} {f : List Int → α} {k : Nat} {it : α} (h : (w.map f)[k]? = some it) : k < w.length ∧ it = f (rw' w k) := by
  rw [List.getElem?_map] at h
  cases hr : w[k]? with
  | none => rw [hr] at h; cases h
  | some r =>
    rw [hr] at h
    cases h
    have hkl : k < w.length := by
      by_cases q : k < w.length
      · exact q
      · rw [List.getElem?_eq_none (by omega)] at hr; cases hr
    rw [rw_some hr]
    exact ⟨hkl, rfl⟩
theorem ix_dW {xs : List (List Int)} {C : CallT} {env : PD.Env} {i j : Nat} {z : Int} {x : D} (hx : asSeq (.d x) = some (xs.map dT)) (h : look env i = some (.d x)) (hj : look env j = some (oI z)) (h0 : 0 ≤ z) (h1 : z < xs.length) : EV C (.op2 .ix (.var i) (.var j)) env (.d (dT (rw' xs z.toNat))) env :=
  ev_op2 (ep_var h) (ep_var hj) (ix_nat (k := z.toNat) hx (by omega) (get_some (by omega)))
theorem filter_tup (xs : List Int) (p : Int → Bool) : fnf .tuple [.d (O.toD (.lst (xs.flatMap fun k => if p k = true then [oI k] else [])))] = some (.d (dT (xs.filter p))) := by
  rw [flatMap_if, toD_map]
  rfl
theorem filter_size {xs : List Int} {p : Int → Bool} (h : xs.length ≤ 100000) : (xs.flatMap fun k => if p k = true then [oI k] else []).length ≤ sizeLine := by
  rw [flatMap_if, List.length_map]
  exact small_size (Nat.le_trans (List.length_filter_le ..) h)
theorem es_rowD {C : CallT} {env : PD.Env} {i : Nat} {x : D} {xs : List Int} (h : look env i = some (.d x)) (hs : asSeq (.d x) = some (xs.map .int)) : semS C (.seq (.var i)) env = some (((xs.map fun a => Item.one (.int a)), none), env) := by
  refine (es_varD h hs).trans ?_
  rw [List.map_map]
  rfl
theorem es_rowE {C : CallT} {env : PD.Env} {e : IE} {o : O} {xs : List Int} (h : EV C e env o env) (hs : asSeq (.d o.toD) = some (xs.map .int)) : sSeq (sem C e).v env = some (((xs.map fun a => Item.one (.int a)), none), env) := by
  refine (es_seq h hs).trans ?_
  rw [List.map_map]
  rfl
end W02
end

section
/-! k01: what its functions answer (6). -/
namespace W02
open PySem L2 PD WM

theorem bare_len (w : List (List Int)) : (bare w).length = w.length := by unfold bare; rw [List.length_map, ab_len]
theorem bare_get {w : List (List Int)} {k : Nat} (h : k < w.length) : rw' (bare w) k = bareRow (ab w) (rw' (ab w) k) := by
  have : (bare w)[k]? = some (bareRow (ab w) (rw' (ab w) k)) := by
    unfold bare
    rw [List.getElem?_map, get_some (by rw [ab_len]; exact h)]
    rfl
  exact rw_some this
theorem _root_.WM.RowOk.filter {k : Nat} {r : List Int} (h : RowOk k r) (p : Int → Bool) : RowOk k (r.filter p) := ⟨h.lt.filter _, fun a ha => h.bd a (List.mem_filter.mp ha).1⟩
theorem web_bare {w : List (List Int)} (hw : Web w) : Web (bare w) := by
  refine ⟨by rw [bare_len]; exact hw.len, fun k r h => ?_⟩
  have hk : k < w.length := by
    by_cases q : k < w.length
    · exact q
    · rw [List.getElem?_eq_none (by rw [bare_len]; omega)] at h; cases h
  have := rw_some h
  rw [← this, bare_get hk]
  exact (ab_row hw k hk).filter _
/-- a two-clause comprehension whose source freezes slots -/
theorem ev_comp2F {C : CallT} {env env0 : PD.Env} {α : Type} {elt : IE} {tg tg1 : Tg} {src src1 : Src} {cond cond1 : Option IE} {vs vs1 : List Nat} {xs : List α} {emb : α → Item} {w : Option (Nat × List D)} {g : α → List O} (hs : semS C src env0 = some ((xs.map emb, w), env)) (hw : watch w (wipe env vs) = true)
    (ht : ∀ a ∈ xs, turn2 tg (semC C cond) (semS C src1) (turn1 tg1 (semC C cond1) (sem C elt).v vs1) vs vs1 (emb a) (wipe env vs) = some (g a, wipe env vs)) (hl : (xs.flatMap g).length ≤ sizeLine) (hb : back env (wipe env vs) vs = env) : EV C (.comp2 elt tg src cond tg1 src1 cond1 vs vs1) env0 (.lst (xs.flatMap g)) env := by
  show vComp _ _ _ env0 = _
  unfold vComp
  rw [hs]
  simp only [loop_map hw ht, guardB, hl, decide_true, if_true, hb]
theorem ev_compF {C : CallT} {env env0 : PD.Env} {α : Type} {elt : IE} {tg : Tg} {src : Src} {cond : Option IE} {vs : List Nat} {xs : List α} {emb : α → Item} {w : Option (Nat × List D)} {g : α → List O} (hs : semS C src env0 = some ((xs.map emb, w), env)) (hw : watch w (wipe env vs) = true)
    (ht : ∀ a ∈ xs, turn1 tg (semC C cond) (sem C elt).v vs (emb a) (wipe env vs) = some (g a, wipe env vs)) (hl : (xs.flatMap g).length ≤ sizeLine) (hb : back env (wipe env vs) vs = env) : EV C (.comp elt tg src cond vs) env0 (.lst (xs.flatMap g)) env := by
  show vComp _ _ _ env0 = _
  unfold vComp
  rw [hs]
  simp only [loop_map hw ht, guardB, hl, decide_true, if_true, hb]
theorem es_zipF {C : CallT} {env env1 env2 : PD.Env} {a b : IE} {x y : O} {ps : List (D × D)} (h : EV C a env x env1) (h2 : EV C b env1 y env2) (hs : zipf x.toD y.toD = some ps) : semS C (.zip a b) env = some ((zipR ps, none), env2) := by
  show sZip _ _ env = _
  unfold sZip
  rw [h]
  simp only [h2, hs, Option.map_some]
theorem zipR_rows (xs ys : List (List Int)) : zipR ((xs.map dT).zip (ys.map dT)) = (xs.zip ys).map fun p => Item.row [dT p.1, dT p.2] := by
  unfold zipR
  rw [List.zip_map, List.map_map]
  rfl
/-- a fn of an operand that freezes -/
theorem ev_fnF {C : CallT} {env env1 : PD.Env} {f : Fn} {e : IE} {x o : O} (h : EV C e env x env1) (hp : (sem C e).p = toP (sem C e).v := by rfl) (hf : fnf f [.d x.toD] = some o) : EV C (.fn f [e]) env o env1 := by
  show vFn _ (mCons (sem C e).p mNil) env = _
  unfold vFn mCons
  rw [hp]
  unfold toP
  rw [h]
  simp only [mNil, ress, res, hf, Option.map_some]
def tighter (w v : List (List Int)) : Bool := (w.zip v).all fun p => p.2.all fun a => decide (a ∈ p.1)
theorem all_flat {α : Type} (q : α → List Bool) (xs : List α) : fnf .all [.d (O.toD (.lst (xs.flatMap fun p => (q p).flatMap fun b => [oB b])))] = some (oB (xs.all fun p => (q p).all id)) := by
  have e : (xs.flatMap fun p => (q p).flatMap fun b => [oB b]) = (xs.flatMap q).map oB := by
    induction xs with
    | nil => rfl
    | cons x xs ih => rw [List.flatMap_cons, List.flatMap_cons, List.map_append, ih, flatMap_one]
  rw [e, toD_map]
  show (match isBools ((xs.flatMap q).map PyData.bool) with
    | some bs => some (oBl (bs.all id))
    | none => none) = _
  rw [isBools_map]
  show some (oBl ((xs.flatMap q).all id)) = _
  rw [List.all_flatMap]
  rfl
end W02
end

section
/-! k01: what its functions answer (7): lasts, joined, web_of, pairs_of, turned. -/
namespace W02
open PySem L2 PD WM

def waited (w : List (List Int)) : List Int := sset ((List.range w.length).flatMap fun k => rw' w k)
theorem rows_len {w : List (List Int)} (hw : Web w) (n : Nat) (hn : n ≤ w.length) : ((List.range n).flatMap fun k => rw' w k).length ≤ 60 * n := by
  induction n with
  | zero => exact Nat.zero_le _
  | succ n ih =>
    rw [List.range_succ, List.flatMap_append, List.length_append, List.flatMap_singleton]
    have := ih (by omega)
    have := (hw.rowOk (k := n) (by omega)).len
    have := hw.len
    omega
theorem es_softN {C : CallT} {env : PD.Env} {i : Nat} {x : D} {f : Nat → D} {n : Nat} (h : look env i = some (.d x)) (hs : asSeq (.d x) = some ((List.range n).map f)) : semS C (.seq (.var i)) env = some ((((List.range n).map fun k => Item.one (f k)), none), env) := by
  refine (es_varD h hs).trans ?_
  rw [List.map_map]
  rfl
/-- rows together -/
def join2 (w v : List (List Int)) : List (List Int) := (w.zip v).map fun p => sset (p.1 ++ p.2)
theorem opAdd_TT (xs ys : List Int) (h : xs.length + ys.length ≤ 100000) : op2f .add (.d (dT xs)) (.d (dT ys)) = some (.d (dT (xs ++ ys))) := by
  show (match asInt (O.d (dT xs)), asInt (O.d (dT ys)) with
    | some i, some j => some (oInt (i + j))
    | _, _ => guardB (decide ((xs.map PyData.int).length + (ys.map PyData.int).length ≤ sizeLine)) (some (O.d (.tuple (xs.map PyData.int ++ ys.map PyData.int))))) = _
  rw [List.length_map, List.length_map]
  show guardB (decide (xs.length + ys.length ≤ sizeLine)) _ = _
  rw [decide_eq_true (small_size h)]
  show some (O.d (.tuple (xs.map PyData.int ++ ys.map PyData.int))) = some (.d (.tuple ((xs ++ ys).map PyData.int)))
  rw [List.map_append]
end W02
end

section
/-! k01: what its functions answer (8): pairs_of, web_of. -/
namespace W02
open PySem L2 PD WM

def prsIn (w : List (List Int)) : List (Int × Int) := (List.range w.length).flatMap fun deed => (rw' w deed).map fun near => (near, (deed : Int))
def prs (w : List (List Int)) : List (Int × Int) := (prsIn w).mergeSort le2
theorem flat_map2 {α β γ : Type} (f : β → γ) (g : α → List β) (l : List α) : (l.flatMap fun k => (g k).flatMap fun a => [f a]) = (l.flatMap g).map f := by
  induction l with
  | nil => rfl
  | cons a l ih => rw [List.flatMap_cons, List.flatMap_cons, List.map_append, ih, flatMap_one]
theorem prsIn_len {w : List (List Int)} (hw : Web w) : (prsIn w).length ≤ 3600 := by
  have := rows_len hw w.length (Nat.le_refl _)
  have e : (prsIn w).length = ((List.range w.length).flatMap fun k => rw' w k).length := by
    unfold prsIn
    simp only [List.length_flatMap, List.length_map]
  have := hw.len
  omega
theorem s_pairs {x : D} {w : List (List Int)} (hx : Soft x w) (hw : Web w) : Ret tab 1 6 [.d x] (.lst ((prs w).map fun p => .d (pD p))) := by
  refine ret_of (r := ir_pairs_of) rfl fun n => ?_
  have hlen := hw.len
  have hpl := prsIn_len hw
  obtain ⟨yk, hs, hk⟩ := hx.at
  have hc := ev_comp2M (C := callF tab (n + 0)) (elt := .tup [.var 3, .var 1]) (tg := .tup [1, 2]) (src := .enum (.var 0)) (cond := none) (tg1 := .name 3) (src1 := .seq (.var 2)) (cond1 := none) (vs := [1, 2, 3]) (vs1 := [3]) (env := [some (.d x), none, none, none])
    (xs := List.range w.length) (emb := fun k => Item.row [.int (k : Nat), yk k]) (w := none) (g := fun k => ((rw' w k).map fun near => (near, (k : Int))).flatMap fun p => [O.d (pD p)]) (es_enumN ev_var hs) rfl (fun k hk' => by
      have hk' := List.mem_range.mp hk'
      have := turn2_all (C := callF tab (n + 0)) (x := Item.row [.int (k : Nat), yk k]) (tg := .tup [1, 2]) (src1 := .seq (.var 2)) (vs := [1, 2, 3]) (vs1 := [3]) (we := [some (.d x), none, none, none]) (env1 := [some (.d x), some (oI (k : Nat)), some (.d (yk k)), none]) (ys := rw' w k) (emb := fun i => Item.one (.int i)) (w := none) (g := fun near => [O.d (pD (near, (k : Int)))]) (inner := turn1 (.name 3) (semC (callF tab (n + 0)) none) (sem (callF tab (n + 0)) (.tup [.var 3, .var 1])).v [3]) rfl (es_rowD rfl (hk k hk').seq) rfl (fun a ha => turn_all rfl (ev_tup (ds_cons ev_var (ds_cons ev_var ds_nil)) (small_size (show 2 ≤ 100000 by decide))) rfl) rfl
      rw [List.flatMap_map]
      exact this) (by
      rw [flat_map2, List.length_map]
      exact small_size (by unfold prsIn at hpl; omega)) rfl
  rw [flat_map2] at hc
  have hc2 := ep_of hc
  rw [toD_map] at hc2
  exact ⟨_, xs_ret (ev_fn1 hc2 (sorted_pD (xs := prsIn w) rfl)), rfl⟩
/-- the rows of pairs -/
def ofRow (ps : List (Int × Int)) (j : Nat) : List Int := (ps.filter fun p => decide (p.2 = (j : Int))).map Prod.fst
def webOf (n : Nat) (ps : List (Int × Int)) : List (List Int) := (List.range n).map fun j => sset (ofRow ps j)
abbrev rowsO (n : Nat) (ps : List (Int × Int)) : List O := (List.range n).map fun j => O.lst ((ofRow ps j).map oI)
theorem xs_appix {C : CallT} {bor : List Bool} {env env1 : PD.Env} {i j p : Nat} {k : IE} {z : Int} {x : D} {o0 : O} {os qs : List O} {ss : List IS} {out : Option Out} (h0 : look env i = some o0) (hk : EV C k env (oI z) env1) (h1 : look env1 i = some (.lst os)) (h2 : look env1 j = some (.d x)) (hp : ixN os.length z = some p) (hq : os[p]? = some (.lst qs)) (hl : qs.length < sizeLine)
    (hr : exs C bor ss (env1.set i (some (.lst (os.set p (.lst (qs ++ [.d x])))))) = out) : exs C bor (.appix i k j :: ss) env = out := by
  (conv => lhs; unfold exs)
  unfold ex ev
  rw [h0]
  simp only [hk, h1, h2, hp, hq, guardB, hl, decide_true, if_true]
  exact hr
theorem ofRow_snoc (ps : List (Int × Int)) (p : Int × Int) (j : Nat) : ofRow (ps ++ [p]) j = ofRow ps j ++ (if decide (p.2 = (j : Int)) = true then [p.1] else []) := by
  unfold ofRow
  rw [List.filter_append, List.map_append, List.filter_cons, List.filter_nil]
  split <;> rfl
theorem rowsO_step {n k : Nat} {ps : List (Int × Int)} {p : Int × Int} (hp : ps[k]? = some p) (h0 : 0 ≤ p.2) (h1 : p.2 < n) : (rowsO n (ps.take k)).set p.2.toNat (.lst ((ofRow (ps.take k) p.2.toNat).map oI ++ [oI p.1])) = rowsO n (ps.take (k + 1)) := by
  have et : ps.take (k + 1) = ps.take k ++ [p] := by rw [List.take_succ, hp]; rfl
  apply List.ext_getElem?
  intro j
  rw [List.getElem?_set, List.getElem?_map, List.getElem?_map, List.length_map, List.length_range]
  by_cases hj : j < n
  · rw [List.getElem?_range hj]
    by_cases e : p.2.toNat = j
    · subst e
      rw [if_pos rfl, if_pos hj, et]
      show some _ = some (O.lst ((ofRow (ps.take k ++ [p]) p.2.toNat).map oI))
      rw [ofRow_snoc, if_pos (decide_eq_true (by omega)), List.map_append]
      rfl
    · rw [if_neg e, et]
      show some (O.lst ((ofRow (ps.take k) j).map oI)) = some (O.lst ((ofRow (ps.take k ++ [p]) j).map oI))
      rw [ofRow_snoc, if_neg (by rw [decide_eq_false (by omega)]; decide), List.append_nil]
  · rw [List.getElem?_eq_none (by simpa using hj)]
    rw [if_neg (by omega)]
    rfl
theorem datas_nest {n : Nat} (h : 0 < n) (f : Nat → List O) : datas ((List.range n).map fun j => O.lst (f j)) = none := by
  cases n with
  | zero => omega
  | succ n =>
    rw [List.range_succ_eq_map, List.map_cons]
    rfl
theorem toDs_nest (f : Nat → List Int) : ∀ l : List Nat, O.toDs (l.map fun j => O.lst ((f j).map oI)) = l.map fun j => dL (f j)
  | [] => by unfold O.toDs; rfl
  | x :: xs => by
    show O.toDs (.lst ((f x).map oI) :: xs.map fun j => O.lst ((f j).map oI)) = _
    unfold O.toDs
    rw [toDs_nest f xs, toD_map]
    rfl
theorem es_varN {env : PD.Env} {i : Nat} {os : List O} (h : look env i = some (.lst os)) (hd : datas os = none) : sVar i env = some (((O.toDs os).map .one, none), env.set i (some (.d (.list (O.toDs os))))) := by
  unfold sVar
  rw [h]
  simp only [hd]
theorem s_web_of {x : D} {n : Nat} {ps : List (Int × Int)} (hx : asSeq (.d x) = some (ps.map pD)) (hn : n ≤ 60) (hl : ps.length ≤ 4000) (hp : ∀ p ∈ ps, 0 ≤ p.1 ∧ p.1 < p.2 ∧ p.2 < n) : Ret tab 3 5 [oI (n : Nat), .d x] (.d (dW (webOf n ps))) := by
  by_cases hn0 : n = 0
  · subst hn0
    have : ps = [] := by
      cases ps with
      | nil => rfl
      | cons p ps =>
        have := hp p List.mem_cons_self
        omega
    subst this
    refine ret_of (r := ir_web_of) rfl fun m => ?_
    refine ⟨_, xs_asg (o := .lst []) (env1 := [some (oI 0), some (.d x), none, none, none, none, none]) rfl (xs_for (items := []) (env1 := [some (oI 0), some (.d x), some (.lst []), none, none, none, none]) (es_seq (C := callF tab (m + 2)) (ev_var (i := 1) (x := x) (env := [some (oI 0), some (.d x), some (.lst []), none, none, none, none]) rfl) hx) (by show forL _ [] _ = _; unfold forL; rfl) (xs_ret (o := .d (.tuple [])) (env1 := [some (oI 0), some (.d x), some (.lst []), none, none, none, none]) rfl)), rfl⟩
  · refine ret_of (r := ir_web_of) rfl fun m => ?_
    have hs : evSrcF (callF tab (m + 2)) (.seq (.var 1)) [some (oI (n : Nat)), some (.d x), some (.lst (rowsO n [])), none, none, none, none] = some (((ps.map fun p => Item.one (pD p)), none), [some (oI (n : Nat)), some (.d x), some (.lst (rowsO n [])), none, none, none, none]) := by
      refine (es_seq (C := callF tab (m + 2)) (ev_var (i := 1) (x := x) (env := [some (oI (n : Nat)), some (.d x), some (.lst (rowsO n [])), none, none, none, none]) rfl) hx).trans ?_
      rw [List.map_map]
      rfl
    obtain ⟨env1, h1, va, vb, h2⟩ := for_inv (I := fun k env => ∃ va vb, env = [some (oI (n : Nat)), some (.d x), some (.lst (rowsO n (ps.take k))), none, va, vb, none]) (f := fun x e => match stTg (.tup [4, 5]) x e with
      | some e1 => exs (callF tab (m + 2)) [false, false] [.ifs (.or (.not (.call 1 [(.var 5), (.var 0)])) (.not (.call 1 [(.var 4), (.var 5)]))) [.never] [], .appix 2 (.var 5) 4] e1
      | none => none) (ps.map fun p => Item.one (pD p)) 0 [some (oI (n : Nat)), some (.d x), some (.lst (rowsO n [])), none, none, none, none] ⟨none, none, rfl⟩ fun k it env hk hi => by
      rw [List.getElem?_map] at hk
      cases hr : ps[k]? with
      | none => rw [hr] at hk; cases hk
      | some p =>
        rw [hr] at hk
        cases hk
        rw [Nat.zero_add] at hi ⊢
        obtain ⟨va, vb, rfl⟩ := hi
        have hb := hp p (List.mem_of_getElem? hr)
        refine ⟨[some (oI (n : Nat)), some (.d x), some (.lst (rowsO n (ps.take (k + 1)))), none, some (oI p.1), some (oI p.2), none], ?_, _, _, rfl⟩
        show exs _ _ _ _ = _
        refine xs_if_no (env := [some (oI (n : Nat)), some (.d x), some (.lst (rowsO n (ps.take k))), none, some (oI p.1), some (oI p.2), none]) ?_ (xs_appix (o0 := .lst (rowsO n (ps.take k))) (os := rowsO n (ps.take k)) (z := p.2) (x := .int p.1) (p := p.2.toNat) (qs := (ofRow (ps.take k) p.2.toNat).map oI) rfl ev_var rfl rfl ?_ ?_ ?_ (by rw [rowsO_step hr (by omega) (by omega)]; exact xs_nil))
        · have e1 := et_not (et_bl (ev_ret (k := 2) (n := m) (env := [some (oI (n : Nat)), some (.d x), some (.lst (rowsO n (ps.take k))), none, some (oI p.1), some (oI p.2), none]) (s_is_below p.2 (n : Nat)) (Nat.le_refl _) (es := [.var 5, .var 0]) (eps_cons ep_var (eps_cons ep_var eps_nil))))
          have e2 := et_not (et_bl (ev_ret (k := 2) (n := m) (env := [some (oI (n : Nat)), some (.d x), some (.lst (rowsO n (ps.take k))), none, some (oI p.1), some (oI p.2), none]) (s_is_below p.1 p.2) (Nat.le_refl _) (es := [.var 4, .var 5]) (eps_cons ep_var (eps_cons ep_var eps_nil))))
          have b1 : (!(decide (0 ≤ p.2) && decide (p.2 < (n : Nat)))) = false := by simp; omega
          have b2 : (!(decide (0 ≤ p.1) && decide (p.1 < p.2))) = false := by simp; omega
          rw [b1] at e1
          rw [b2] at e2
          exact et_or e1 fun _ => e2
        · unfold ixN
          rw [List.length_map, List.length_range, if_pos (by omega), if_pos (by omega)]
        · rw [List.getElem?_map, List.getElem?_range (by omega)]
          rfl
        · rw [List.length_map, sizeLine_eq]
          unfold ofRow
          rw [List.length_map]
          have := List.length_filter_le (fun q : Int × Int => decide (q.2 = ((p.2.toNat : Nat) : Int))) (ps.take k)
          have : (ps.take k).length ≤ ps.length := by rw [List.length_take]; omega
          omega
    rw [Nat.zero_add, List.length_map, List.take_length] at h2
    have hrow : ∀ j, j < n → (ofRow ps j).length + 1 < 4096 ∧ (sset (ofRow ps j)).length < 64 := fun j hj => by
      constructor
      · unfold ofRow
        rw [List.length_map]
        have := List.length_filter_le (fun q : Int × Int => decide (q.2 = (j : Int))) ps
        omega
      · refine sset_small fun a ha => ?_
        obtain ⟨q, hq, rfl⟩ := List.mem_map.mp ha
        have := hp q (List.mem_filter.mp hq).1
        omega
    have hlast : EV (callF tab (m + 2)) (.fn .tuple [(.comp (.call 4 [(.var 6)]) (.name 6) (.seq (.var 2)) none [6])]) [some (oI (n : Nat)), some (.d x), some (.lst (rowsO n ps)), none, va, vb, none] (.d (dW (webOf n ps))) [some (oI (n : Nat)), some (.d x), some (.d (.list ((List.range n).map fun j => dL (ofRow ps j)))), none, va, vb, none] := by
      refine ev_fnF (x := .lst ((List.range n).flatMap fun j => [O.d (dT (sset (ofRow ps j)))])) (ev_compF (xs := List.range n) (emb := fun j => Item.one (dL (ofRow ps j))) (w := none) ?_ rfl (fun j hj => ?_) ?_ rfl) rfl ?_
      · refine (es_varN (i := 2) (env := [some (oI (n : Nat)), some (.d x), some (.lst (rowsO n ps)), none, va, vb, none]) (os := rowsO n ps) rfl (datas_nest (by omega) _)).trans ?_
        rw [toDs_nest, List.map_map]
        rfl
      · have hj := List.mem_range.mp hj
        exact turn_all rfl (ev_ret (k := 2) (s_set_of (x := dL (ofRow ps j)) _ rfl (hrow j hj).1 (hrow j hj).2) (by decide) (eps_cons ep_var eps_nil)) rfl
      · rw [flatMap_one, List.length_map, List.length_range]
        exact small_size (by omega)
      · rw [flatMap_one, toD_map]
        show some (O.d (PyData.tuple _)) = some (O.d (.tuple ((webOf n ps).map dT)))
        unfold webOf
        rw [List.map_map]
        rfl
    have hfirst : EV (callF tab (m + 2)) (.comp (.lst []) (.name 3) (.rng1 (.var 0)) none [3]) [some (oI (n : Nat)), some (.d x), none, none, none, none, none] (.lst (rowsO n [])) [some (oI (n : Nat)), some (.d x), none, none, none, none, none] := by
      have := ev_compM (C := callF tab (m + 2)) (env := [some (oI (n : Nat)), some (.d x), none, none, none, none, none]) (elt := .lst []) (tg := .name 3) (src := .rng1 (.var 0)) (cond := none) (vs := [3]) (xs := List.range n) (emb := fun k => Item.one (.int (k : Nat))) (w := none) (g := fun _ => [O.lst []]) (es_rngN ev_var (by omega)) rfl (fun k _ => turn_all rfl rfl rfl) (by rw [flatMap_one, List.length_map, List.length_range]; exact small_size (by omega)) rfl
      rw [flatMap_one] at this
      exact this
    refine ⟨_, xs_asg hfirst (xs_for hs h1 (by rw [h2]; exact xs_ret hlast)), rfl⟩
end W02
end

section
/-! k01: what its functions answer (9): turned. -/
namespace W02
open PySem L2 PD WM

theorem prs_mem {w : List (List Int)} (hw : Web w) (p : Int × Int) : p ∈ prs w ↔ ∃ deed : Nat, deed < w.length ∧ p.2 = (deed : Int) ∧ p.1 ∈ rw' w deed := by
  unfold prs
  rw [List.mem_mergeSort]
  unfold prsIn
  rw [List.mem_flatMap]
  constructor
  · rintro ⟨deed, hd, h⟩
    obtain ⟨near, hn, rfl⟩ := List.mem_map.mp h
    exact ⟨deed, List.mem_range.mp hd, rfl, hn⟩
  · rintro ⟨deed, hd, e, h⟩
    exact ⟨deed, List.mem_range.mpr hd, List.mem_map.mpr ⟨p.1, h, Prod.ext rfl e.symm⟩⟩
theorem prs_bd {w : List (List Int)} (hw : Web w) : ∀ p ∈ prs w, 0 ≤ p.1 ∧ p.1 < p.2 ∧ p.2 < (w.length : Int) := fun p hp => by
  obtain ⟨deed, hd, e, h⟩ := (prs_mem hw p).mp hp
  have := (hw.rowOk hd).bd p.1 h
  omega
theorem prs_len {w : List (List Int)} (hw : Web w) : (prs w).length ≤ 3600 := by
  unfold prs
  rw [List.length_mergeSort]
  exact prsIn_len hw
def turnP (n : Nat) (ps : List (Int × Int)) : List (Int × Int) := ps.map fun p => ((n : Int) - 1 - p.2, (n : Int) - 1 - p.1)
theorem op_sub (a b : Int) : op2f .sub (oI a) (oI b) = some (oI (a - b)) := rfl
theorem s_turned {x : D} {w : List (List Int)} (hx : Soft x w) (hw : Web w) : Ret tab 4 9 [.d x] (.d (dW (webOf w.length (turnP w.length (prs w))))) := by
  refine ret_of (r := ir_turned) rfl fun n => ?_
  have hlen := hw.len
  have hpl := prs_len hw
  have hcomp : EV (callF tab (n + 3)) (.comp (.tup [(.op2 .sub (.op2 .sub (.var 1) (.cint 1)) (.var 3)), (.op2 .sub (.op2 .sub (.var 1) (.cint 1)) (.var 2))]) (.tup [2, 3]) (.seq (.call 6 [(.call 3 [(.var 0)])])) none [2, 3]) [some (.d x), some (oI (w.length : Nat)), none, none] (.lst ((turnP w.length (prs w)).map fun p => .d (pD p))) [some (.d x), some (oI (w.length : Nat)), none, none] := by
    have := ev_compM (C := callF tab (n + 3)) (env := [some (.d x), some (oI (w.length : Nat)), none, none]) (elt := .tup [(.op2 .sub (.op2 .sub (.var 1) (.cint 1)) (.var 3)), (.op2 .sub (.op2 .sub (.var 1) (.cint 1)) (.var 2))]) (tg := .tup [2, 3]) (src := .seq (.call 6 [(.call 3 [(.var 0)])])) (cond := none) (vs := [2, 3]) (xs := prs w) (emb := fun p => Item.one (pD p)) (w := none)
      (g := fun p => [O.d (pD ((w.length : Int) - 1 - p.2, (w.length : Int) - 1 - p.1))]) (by
        refine (es_seq (C := callF tab (n + 3)) (ev_ret (k := 3) (n := n) (env := [some (.d x), some (oI (w.length : Nat)), none, none]) (s_pairs (Soft.hard w) hw) (by decide) (eps_cons (ep_d (ev_ret (k := 3) (n := n) (s_tuple_web w hx (by omega) fun r hr => by have := hw.mem hr; omega) (Nat.le_refl _) (eps_cons ep_var eps_nil))) eps_nil)) (xs := (prs w).map pD) (by rw [toD_map]; rfl)).trans ?_
        rw [List.map_map]
        rfl) rfl (fun p hp => turn_all (env1 := [some (.d x), some (oI (w.length : Nat)), some (oI p.1), some (oI p.2)]) rfl (ev_tup (ds_cons (ev_op2 (ep_d (ev_op2 ep_var (ep_d rfl) (op_sub _ 1))) ep_var (op_sub _ _)) (ds_cons (ev_op2 (ep_d (ev_op2 ep_var (ep_d rfl) (op_sub _ 1))) ep_var (op_sub _ _)) ds_nil)) (small_size (show 2 ≤ 100000 by decide))) rfl) (by rw [flatMap_one, List.length_map]; exact small_size (by omega)) rfl
    rw [flatMap_one] at this
    unfold turnP
    rw [List.map_map]
    exact this
  have hc2 := ep_of hcomp
  rw [toD_map] at hc2
  refine ⟨_, xs_asg (ev_fn1 ep_var hx.len) (xs_ret (ev_ret (k := 3) (s_web_of (n := w.length) (ps := turnP w.length (prs w)) (x := .list ((turnP w.length (prs w)).map pD)) rfl (by omega) (by unfold turnP; rw [List.length_map]; omega) fun p hp => ?_) (Nat.le_refl _) (eps_cons ep_var (eps_cons hc2 eps_nil)))), rfl⟩
  obtain ⟨q, hq, rfl⟩ := List.mem_map.mp hp
  have := prs_bd hw q hq
  show 0 ≤ (w.length : Int) - 1 - q.2 ∧ (w.length : Int) - 1 - q.2 < (w.length : Int) - 1 - q.1 ∧ (w.length : Int) - 1 - q.1 < (w.length : Int)
  omega
end W02
end

section
/-! k01: what its functions answer (10): part_of. -/
namespace W02
open PySem L2 PD WM

theorem idx_ne {α : Type} [DecidableEq α] {x a : α} (xs : List α) (h : x ≠ a) : (x :: xs).idxOf a = xs.idxOf a + 1 := by
  rw [List.idxOf_cons]
  have : (x == a) = false := by simp [h]
  rw [this]
  rfl
theorem idx_lt : ∀ (ds : List Int), ds.Pairwise (· < ·) → ∀ a b, a ∈ ds → b ∈ ds → a < b → ds.idxOf a < ds.idxOf b
  | [], _, a, _, h, _, _ => absurd h List.not_mem_nil
  | x :: xs, hp, a, b, ha, hb, hab => by
    have hp' := List.pairwise_cons.mp hp
    by_cases e : x = a
    · subst e
      have hne : x ≠ b := by omega
      rw [List.idxOf_cons_self, idx_ne _ hne]
      omega
    · have ha' : a ∈ xs := (List.mem_cons.mp ha).elim (fun z => absurd z.symm e) id
      have hxa := hp'.1 a ha'
      have hne : x ≠ b := by omega
      have hb' : b ∈ xs := (List.mem_cons.mp hb).elim (fun z => absurd z.symm hne) id
      rw [idx_ne _ e, idx_ne _ hne]
      have := idx_lt xs hp'.2 a b ha' hb' hab
      omega
theorem idx_len {ds : List Int} {a : Int} (h : a ∈ ds) : ds.idxOf a < ds.length := List.idxOf_lt_length_of_mem h
theorem idxD_int (a : Int) : ∀ xs : List Int, a ∈ xs → idxD (xs.map .int) (.int a) = some (xs.idxOf a) := by
  intro xs h
  have e : (xs.map PyData.int).map (fun z => eqD z (.int a)) = xs.map fun z => decide (z = a) := by
    rw [List.map_map]
    refine List.map_congr_left fun z _ => ?_
    show eqD (.int z) (.int a) = _
    unfold eqD
    exact eqv_int z a
  unfold idxD
  rw [e, if_pos (List.mem_map.mpr ⟨a, h, decide_eq_true rfl⟩)]
  congr 1
  clear e
  induction xs with
  | nil => exact absurd h List.not_mem_nil
  | cons x xs ih =>
    by_cases hx : x = a
    · subst hx
      rw [List.map_cons, decide_eq_true rfl, List.idxOf_cons_self, List.idxOf_cons_self]
    · have h' : a ∈ xs := (List.mem_cons.mp h).elim (fun z => absurd z.symm hx) id
      rw [List.map_cons, decide_eq_false hx, idx_ne _ (by decide), idx_ne _ hx, ih h']
theorem idxf_own (a : Int) (xs : List Int) (h : a ∈ xs) : idxf false (.lst (xs.map oI)) (oI a) = some (oInt (xs.idxOf a : Nat)) := by
  show (match (if false = true then asTup (.lst (xs.map oI)) else asList (.lst (xs.map oI))) with
    | some xs => guardB (depI xs (PyData.int a)) ((idxD xs (.int a)).map fun k => oInt (k : Nat))
    | none => none) = _
  rw [if_neg (by decide), asList_map]
  simp only [guardB, depI_r (depth_int a) (by decide : 0 ≤ 60), if_true, idxD_int a xs h, Option.map_some]
/-- the web among some deeds, renumbered -/
def partRow (w : List (List Int)) (ds : List Int) (d : Int) : List Int := ((rw' (ab w) d.toNat).filter fun a => decide (a ∈ ds)).map fun a => ((ds.idxOf a : Nat) : Int)
def partW (w : List (List Int)) (ds : List Int) : List (List Int) := ds.map (partRow w ds)
theorem web_part {w : List (List Int)} (hw : Web w) {ds : List Int} (hp : ds.Pairwise (· < ·)) (hb : ∀ d ∈ ds, 0 ≤ d ∧ d < w.length) : Web (partW w ds) := by
  have hl := hw.len
  refine ⟨?_, fun k r h => ?_⟩
  · unfold partW
    rw [List.length_map]
    have := len_bound ds 0 w.length hp hb
    omega
  · unfold partW at h
    rw [List.getElem?_map] at h
    cases hd : ds[k]? with
    | none => rw [hd] at h; cases h
    | some d =>
      rw [hd] at h
      cases h
      have hm := List.mem_of_getElem? hd
      have bd := hb d hm
      have hk : k < ds.length := by
        by_cases q : k < ds.length
        · exact q
        · rw [List.getElem?_eq_none (by omega)] at hd; cases hd
      have hdk : ds.idxOf d = k := by
        have nd : ds.Nodup := hp.imp fun q => by omega
        rw [List.getElem?_eq_getElem hk] at hd
        have e := Option.some.inj hd
        subst e
        exact List.Nodup.idxOf_getElem nd k hk
      have ok := ab_row hw d.toNat (by omega)
      unfold partRow
      refine ⟨?_, fun a ha => ?_⟩
      · rw [List.pairwise_map]
        refine (ok.lt.filter _).imp_of_mem fun {a b} ha hb' hab => ?_
        have h1 := of_decide_eq_true (List.mem_filter.mp ha).2
        have h2 := of_decide_eq_true (List.mem_filter.mp hb').2
        have := idx_lt ds hp a b h1 h2 hab
        omega
      · obtain ⟨b, hb', rfl⟩ := List.mem_map.mp ha
        have h1 := of_decide_eq_true (List.mem_filter.mp hb').2
        have h2 := ok.bd b (List.mem_filter.mp hb').1
        have := idx_lt ds hp b d h1 hm (by omega)
        omega
end W02
end

section
/-! k01: what its functions answer (11): is_web; the urn. -/
namespace W02
open PySem L2 PD WM

theorem asc_of : ∀ xs : List Int, xs.Pairwise (· < ·) → asc xs = true
  | [], _ => rfl
  | [x], _ => rfl
  | x :: y :: r, h => by
    have h' := List.pairwise_cons.mp h
    have := asc_of (y :: r) h'.2
    unfold asc at this ⊢
    show (((x, y) :: ((y :: r).zip ((y :: r).drop 1))).all fun p => decide (p.1 < p.2)) = true
    rw [List.all_cons, this]
    have := h'.1 y List.mem_cons_self
    simp [this]
theorem op_addI (a b : Int) : op2f .add (oI a) (oI b) = some (oI (a + b)) := rfl
theorem op_mulB {a b : Int} (h : bigB a = true ∨ bigB b = true) : op2f .mul (oI a) (oI b) = some (oI (a * b)) := by
  show guardB (bigB a || bigB b) (some (oInt (a * b))) = _
  rw [Bool.or_eq_true _ _ |>.mpr h]
  rfl
theorem op_modN {a b : Int} (h : b ≠ 0) : op2f .mod (oI a) (oI b) = some (oI (a.fmod b)) := by
  show guardB (decide (b ≠ 0)) (some (oInt (a.fmod b))) = _
  rw [decide_eq_true h]
  rfl
theorem op_fdivN {a b : Int} (h : b ≠ 0) (h2 : b.natAbs < 1073741824) : op2f .fdiv (oI a) (oI b) = some (oI (a.fdiv b)) := by
  show guardB (decide (b ≠ 0) && decide (b.natAbs < 1073741824)) (some (oInt (a.fdiv b))) = _
  rw [decide_eq_true h, decide_eq_true h2]
  rfl
theorem op_gtI (a b : Int) : op2f .gt (oI a) (oI b) = some (oB (decide (b < a))) := rfl
theorem bigB_of {a : Int} (h1 : -(2 ^ 64) < a) (h2 : a < 2 ^ 64) : bigB a = true := by
  unfold bigB
  rw [decide_eq_true h1, decide_eq_true h2]
  rfl
theorem fmod_bd (a : Int) {b : Int} (h : 0 < b) : 0 ≤ a.fmod b ∧ a.fmod b < b := ⟨Int.fmod_nonneg_of_pos a h, Int.fmod_lt_of_pos a h⟩
theorem xs_setix {C : CallT} {bor : List Bool} {env env1 env2 : PD.Env} {i j : Nat} {e k : IE} {z : Int} {o : O} {os0 os : List O} {ss : List IS} {out : Option Out} (h : EV C e env o env1) (h1 : look env1 i = some (.lst os0)) (hk : EV C k env1 (oI z) env2) (h2 : look env2 i = some (.lst os)) (hp : ixN os.length z = some j)
    (hr : exs C bor ss (env2.set i (some (.lst (os.set j o)))) = out) : exs C bor (.setix i k e :: ss) env = out := by
  (conv => lhs; unfold exs)
  unfold ex ev
  rw [h]
  simp only [h1, hk, h2, hp]
  exact hr

/-! ### the urn -/
structure UrnOk (a b c : Int) (m : Nat) : Prop where
  a0 : 0 ≤ a
  b0 : 0 ≤ b
  b1 : b < 2 ^ 63
  c0 : 0 ≤ c
  c1 : c + m ≤ 2 ^ 40
abbrev oU (a b c : Int) : O := .lst [oI a, oI b, oI c]
theorem ev_u0 {C : CallT} {env : PD.Env} {a b c : Int} (h : look env 0 = some (oU a b c)) : EV C (.op2 .ix (.var 0) (.cint 0)) env (oI a) env := ev_op2 (ep_own h rfl) (ep_d rfl) rfl
theorem ev_u1 {C : CallT} {env : PD.Env} {a b c : Int} (h : look env 0 = some (oU a b c)) : EV C (.op2 .ix (.var 0) (.cint 1)) env (oI b) env := ev_op2 (ep_own h rfl) (ep_d rfl) rfl
theorem ev_u2 {C : CallT} {env : PD.Env} {a b c : Int} (h : look env 0 = some (oU a b c)) : EV C (.op2 .ix (.var 0) (.cint 2)) env (oI c) env := ev_op2 (ep_own h rfl) (ep_d rfl) rfl
theorem ev_intI {C : CallT} {env : PD.Env} {e : IE} {i : Int} (h : EP C e env (oI i)) : EV C (.fn .int [e]) env (oI i) env := ev_fn1 h rfl
theorem s_take {a b c : Int} {m : Nat} (h : UrnOk a b c (m + 1)) {low : Int} (l0 : 0 < low) (l1 : low ≤ 1000000) : ∃ r a' c', 0 ≤ r ∧ r < low ∧ UrnOk a' b c' m ∧ ∀ n, ∃ f, callF tab (n + 1) 26 [oU a b c, oI low] = some (oI r, [some (oU a' b c'), f]) := by
  have hc1 := h.c1
  by_cases ha : 0 < a
  · refine ⟨a.fmod low, a.fdiv low, c, (fmod_bd a l0).1, (fmod_bd a l0).2, ⟨Int.fdiv_nonneg h.a0 (by omega), h.b0, h.b1, h.c0, by omega⟩, fun n => ⟨some (oI low), ?_⟩⟩
    refine call_rt (r := ir__law_take) (env := [some (oU (a.fdiv low) b c), some (oI low), some (oI (a.fmod low)), none, none, none]) rfl (xs_if_ret (p := true) ?_ ?_)
    · have := et_bl (ev_op2 (op := .gt) (C := callF tab n) (ep_d (ev_u0 (C := callF tab n) (env := [some (oU a b c), some (oI low), none, none, none, none]) rfl)) (ep_d (e := .cint 0) rfl) (op_gtI a 0))
      rw [decide_eq_true ha] at this
      exact this
    · rw [if_pos rfl]
      refine xs_asg (ev_op2 (ep_d (ev_intI (ep_d (ev_u0 rfl)))) ep_var (op_modN (by omega))) (xs_setix (env1 := [some (oU a b c), some (oI low), some (oI (a.fmod low)), none, none, none]) (ev_op2 (ep_d (ev_u0 rfl)) ep_var (op_fdivN (by omega) (by omega))) rfl rfl rfl rfl (xs_retD rfl))
  · generalize he1 : (((b + 48271 * (c + 1)) * (39373 + (c + 1))).fmod 2147483647) = once
    generalize he2 : once.fmod 40009 + 7 = far
    generalize he3 : ((once + (c + 1) + b.fdiv 1000003) * far).fmod 2147483629 = twice
    have f1 := fmod_bd ((b + 48271 * (c + 1)) * (39373 + (c + 1))) (b := 2147483647) (by decide)
    rw [he1] at f1
    have f2 := fmod_bd once (b := 40009) (by decide)
    have c0 := h.c0
    refine ⟨((twice * 48271 + once).fmod 2147483587 |>.fdiv 64).fmod low, a, c + 1, (fmod_bd _ l0).1, (fmod_bd _ l0).2, ⟨h.a0, h.b0, h.b1, by omega, by omega⟩, fun n => ⟨some (oI low), ?_⟩⟩
    refine call_rt (r := ir__law_take) (env := [some (oU a b (c + 1)), some (oI low), none, some (oI once), some (oI far), some (oI twice)]) rfl (xs_if_no ?_ (xs_setix (env1 := [some (oU a b c), some (oI low), none, none, none, none]) (ev_op2 (ep_d (ev_u2 rfl)) (ep_d (e := .cint 1) rfl) (op_addI c 1)) rfl rfl rfl rfl
      (xs_asg (o := oI once) (env1 := [some (oU a b (c + 1)), some (oI low), none, none, none, none]) ?_ (xs_asg (o := oI far) (env1 := [some (oU a b (c + 1)), some (oI low), none, some (oI once), none, none]) ?_ (xs_asg (o := oI twice) (env1 := [some (oU a b (c + 1)), some (oI low), none, some (oI once), some (oI far), none]) ?_ (xs_ret ?_))))))
    · have := et_bl (ev_op2 (op := .gt) (C := callF tab n) (ep_d (ev_u0 (C := callF tab n) (env := [some (oU a b c), some (oI low), none, none, none, none]) rfl)) (ep_d (e := .cint 0) rfl) (op_gtI a 0))
      rw [decide_eq_false ha] at this
      exact this
    · have := ev_op2 (C := callF tab n) (env := [some (oU a b (c + 1)), some (oI low), none, none, none, none]) (ep_d (ev_intI (ep_d (ev_op2 (ep_d (ev_op2 (ep_d (ev_u1 rfl)) (ep_d (ev_op2 (ep_d (e := .cint 48271) rfl) (ep_d (ev_u2 rfl)) (op_mulB (.inl (by decide))))) (op_addI _ _))) (ep_d (ev_op2 (ep_d (e := .cint 39373) rfl) (ep_d (ev_u2 rfl)) (op_addI _ _))) (op_mulB (.inr (bigB_of (by omega) (by omega)))))))) (ep_d (e := .cint 2147483647) rfl) (op_modN (by decide))
      rw [he1] at this
      exact this
    · have := ev_op2 (C := callF tab n) (env := [some (oU a b (c + 1)), some (oI low), none, some (oI once), none, none]) (ep_d (ev_op2 (ep_d (ev_intI (ep_var (i := 3) rfl))) (ep_d (e := .cint 40009) rfl) (op_modN (by decide)))) (ep_d (e := .cint 7) rfl) (op_addI _ _)
      rw [he2] at this
      exact this
    · have := ev_op2 (C := callF tab n) (env := [some (oU a b (c + 1)), some (oI low), none, some (oI once), some (oI far), none]) (ep_d (ev_intI (ep_d (ev_op2 (ep_d (ev_op2 (ep_d (ev_op2 (ep_var (i := 3) rfl) (ep_d (ev_u2 rfl)) (op_addI _ _))) (ep_d (ev_op2 (ep_d (ev_u1 rfl)) (ep_d (e := .cint 1000003) rfl) (op_fdivN (by decide) (by decide)))) (op_addI _ _))) (ep_var (i := 4) rfl) (op_mulB (.inr (bigB_of (by omega) (by omega)))))))) (ep_d (e := .cint 2147483629) rfl) (op_modN (by decide))
      rw [he3] at this
      exact this
    · exact ev_op2 (C := callF tab n) (env := [some (oU a b (c + 1)), some (oI low), none, some (oI once), some (oI far), some (oI twice)]) (ep_d (ev_intI (ep_d (ev_op2 (ep_d (ev_op2 (ep_d (ev_intI (ep_d (ev_op2 (ep_d (ev_op2 (ep_var (i := 5) rfl) (ep_d (e := .cint 48271) rfl) (op_mulB (.inr (by decide))))) (ep_var (i := 3) rfl) (op_addI _ _))))) (ep_d (e := .cint 2147483587) rfl) (op_modN (by decide)))) (ep_d (e := .cint 64) rfl) (op_fdivN (by decide) (by decide)))))) (ep_var (i := 1) rfl) (op_modN (by omega))
end W02
end

section
/-! k01: what its functions answer (12): the law's own: _law_same of equal things. -/
namespace W02
open PySem L2 PD WM

/-- data of depth below k, no dict, no text -/
inductive Okd : Nat → D → Prop
  | non (k : Nat) : Okd (k + 1) .none
  | bool (k : Nat) (b : Bool) : Okd (k + 1) (.bool b)
  | int (k : Nat) (i : Int) : Okd (k + 1) (.int i)
  | list {k : Nat} {xs : List D} : xs.length ≤ 5000 → (∀ x ∈ xs, Okd k x) → Okd (k + 1) (.list xs)
  | tuple {k : Nat} {xs : List D} : xs.length ≤ 5000 → (∀ x ∈ xs, Okd k x) → Okd (k + 1) (.tuple xs)
theorem zip_self (xs : List D) : zipR (xs.zip xs) = xs.map fun z => Item.row [z, z] := by
  unfold zipR
  induction xs with
  | nil => rfl
  | cons x xs ih => rw [List.zip_cons_cons, List.map_cons, List.map_cons, ih]
theorem same_seq {k : Nat} {x : D} {xs : List D} (n : Nat) {ty : Ty} (hty : tyOf x = some ty) (hl : ty = .list ∨ ty = .tuple) (hs : asSeq (.d x) = some xs) (hz : zipf x x = some (xs.zip xs)) (hlen : xs.length ≤ 5000) (ih : ∀ z ∈ xs, Ret tab k 29 [.d z, .d z] (oB true)) :
    ∃ env, exs (callF tab (n + k)) ([O.d x, O.d x].map isOwn) ir__law_same.body ([O.d x, O.d x].map some ++ List.replicate (ir__law_same.nl - ir__law_same.np) none) = some (.rt (oB true) env) ∧ env.length = ir__law_same.nl := by
  have hm : isiT ty [.list, .tuple] = true := by rcases hl with rfl | rfl <;> rfl
  have hc := ev_isiT (C := callF tab (n + k)) (a := .var 1) (ts := [.list, .tuple]) (env := [some (.d x), some (.d x), none, none]) ep_var hty
  rw [hm] at hc
  have t0 : ∀ t, EV (callF tab (n + k)) (.isi (.var 0) t) [some (.d x), some (.d x), none, none] (oB (isiT ty [t])) [some (.d x), some (.d x), none, none] := fun t => ev_isi ep_var hty
  have t1 : ∀ t, EV (callF tab (n + k)) (.isi (.var 1) t) [some (.d x), some (.d x), none, none] (oB (isiT ty [t])) [some (.d x), some (.d x), none, none] := fun t => ev_isi ep_var hty
  have eqb : ∀ b : Bool, op2f .ne (oB b) (oB b) = some (oB false) := fun b => by cases b <;> rfl
  have g : ET (callF tab (n + k)) (.or (.op2 .ne (.isi (.var 0) .list) (.isi (.var 1) .list)) (.op2 .ne (.isi (.var 0) .tuple) (.isi (.var 1) .tuple))) [some (.d x), some (.d x), none, none] false :=
    et_or (p := false) (q := false) (et_bl (ev_op2 (ep_d (t0 .list)) (ep_d (t1 .list)) (eqb _))) fun _ => et_bl (ev_op2 (ep_d (t0 .tuple)) (ep_d (t1 .tuple)) (eqb _))
  have hlen' : ∀ i, look [some (O.d x), some (.d x), none, none] i = some (.d x) → EV (callF tab (n + k)) (.fn .len [.var i]) [some (.d x), some (.d x), none, none] (oI (xs.length : Nat)) [some (.d x), some (.d x), none, none] := fun i hi => ev_fn1 (ep_var hi) (by
    show (match asSeq (.d x) with
      | some xs => some (oInt xs.length)
      | none => _) = _
    rw [hs]
    rfl)
  have hcomp := ev_compM (C := callF tab (n + k)) (env := [some (.d x), some (.d x), none, none]) (elt := .call 29 [(.var 2), (.var 3)]) (tg := .tup [2, 3]) (src := .zip (.var 0) (.var 1)) (cond := none) (vs := [2, 3]) (xs := xs) (emb := fun z => Item.row [z, z]) (w := none) (g := fun _ => [oB true]) (by
    rw [← zip_self]
    exact es_zip ev_var ev_var hz) rfl (fun z hzm => turn_all (env1 := [some (.d x), some (.d x), some (.d z), some (.d z)]) rfl (ev_ret (k := k) (ih z hzm) (Nat.le_refl _) (eps_cons ep_var (eps_cons ep_var eps_nil))) rfl) (by rw [flatMap_one, List.length_map]; exact small_size (by omega)) rfl
  rw [flatMap_one] at hcomp
  have hc2 := ep_of hcomp
  rw [toD_map (fun _ => PyData.bool true)] at hc2
  have hall := all_map (p := fun _ : D => true) (xs := xs)
  rw [show (xs.all fun _ => true) = true from List.all_eq_true.mpr fun _ _ => rfl] at hall
  refine ⟨_, xs_if_ret (p := true) (et_bl hc) (by
    rw [if_pos rfl]
    exact xs_if_no g (xs_ret (ev_andB (p := true) (q := true) (by
      have := ev_op2 (ep_d (hlen' 0 rfl)) (ep_d (hlen' 1 rfl)) (eq_int _ _)
      rw [decide_eq_true rfl] at this
      exact this) fun _ => ev_fn1 hc2 hall))), rfl⟩
theorem s_same_refl : ∀ (k : Nat) (x : D), Okd k x → Ret tab k 29 [.d x, .d x] (oB true) := by
  intro k x h
  induction h with
  | non k => exact (show Ret tab 1 29 [.d .none, .d .none] (oB true) from fun n => ⟨_, rfl, rfl⟩).le (Nat.le_add_left 1 k)
  | bool k b => exact (show Ret tab 1 29 [.d (.bool b), .d (.bool b)] (oB true) from fun n => by cases b <;> exact ⟨_, rfl, rfl⟩).le (Nat.le_add_left 1 k)
  | int k i =>
    refine (show Ret tab 1 29 [.d (.int i), .d (.int i)] (oB true) from ?_).le (Nat.le_add_left 1 k)
    refine ret_of (r := ir__law_same) rfl fun n => ?_
    refine ⟨_, xs_if_no (et_bl (ev_isiT (ty := .int) ep_var rfl)) (xs_if_no (et_or (p := false) (q := false) (et_bl rfl) fun _ => et_bl (ev_isiT (ty := .int) ep_var rfl)) (xs_ret (ev_andB (p := true) (q := true) (ev_isi (ty := .int) ep_var rfl) fun _ => ev_andB (p := true) (q := true) (ev_not (p := false) (ev_isi (ty := .int) ep_var rfl) rfl) fun _ => ?_))), rfl⟩
    have := ev_op2 (C := callF tab (n + 0)) (env := [some (oI i), some (oI i), none, none]) (ep_var (i := 0) rfl) (ep_var (i := 1) rfl) (eq_int i i)
    rw [decide_eq_true rfl] at this
    exact this
  | @list k xs hl _ ih => exact ret_of (r := ir__law_same) rfl fun n => same_seq n (ty := .list) rfl (.inl rfl) rfl rfl hl ih
  | @tuple k xs hl _ ih => exact ret_of (r := ir__law_same) rfl fun n => same_seq n (ty := .tuple) rfl (.inr rfl) rfl rfl hl ih
end W02
end

section
/-! k01: what its functions answer (13): draws; the law's own closure. -/
namespace W02
open PySem L2 PD WM

/-- what a draw does: r drawn below low, the urn behind it -/
def Take (a b c low r a' c' : Int) : Prop := ∀ n, ∃ f, callF tab (n + 1) 26 [oU a b c, oI low] = some (oI r, [some (oU a' b c'), f])
theorem ev_take {n k i : Nat} {e : IE} {env : PD.Env} {a b c low r a' c' : Int} (ht : Take a b c low r a' c') (hk : 1 ≤ k) (hu : look env i = some (oU a b c)) (he : EP (callF tab (n + k)) e env (oI low)) : EV (callF tab (n + k)) (.call 26 [.var i, e]) env (oI r) (env.set i (some (oU a' b c'))) := by
  obtain ⟨p, h1, h2⟩ := he
  obtain ⟨m, rfl⟩ := Nat.le.dest hk
  obtain ⟨f, hf⟩ := ht (n + m)
  rw [show n + m + 1 = n + (1 + m) from by omega] at hf
  refine ev_callL (ps := [.slot i, p]) (os := [oU a b c, oI low]) (env1 := env) (fin := [some (oU a' b c'), f]) ?_ ?_ ?_ hf rfl ?_
  · show mCons (pVar i) (mCons (sem (callF tab (n + (1 + m))) e).p mNil) env = _
    unfold mCons pVar
    rw [hu]
    show (match some (Opnd.slot i, env) with
      | some (x, env1) => _
      | none => none) = _
    simp only [h1, mNil]
  · show (match look env i, ress env [p] with
      | some o, some os => some (o :: os)
      | _, _ => none) = _
    rw [hu]
    unfold ress
    rw [h2]
    rfl
  · cases p <;> rfl
  · cases p <;> rfl
theorem take_ok {a b c : Int} {m : Nat} (h : UrnOk a b c (m + 1)) {low : Int} (l0 : 0 < low) (l1 : low ≤ 1000000) : ∃ r a' c', 0 ≤ r ∧ r < low ∧ UrnOk a' b c' m ∧ Take a b c low r a' c' := s_take h l0 l1
/-- two operands, the second one's walk changes slots -/
theorem ev_op2F {C : CallT} {a b : IE} {env env1 : PD.Env} {op : Op2} {p : Opnd} {x y z : O} (ha : (sem C a).p env = some (p, env)) (hb : EV C b env y env1) (hx : res env1 p = some x) (h : op2f op x (.d y.toD) = some z) (hp : (sem C b).p = toP (sem C b).v := by rfl) : EV C (.op2 op a b) env z env1 := by
  show vOp2 op _ _ env = _
  unfold vOp2
  rw [ha]
  simp only
  rw [hp]
  unfold toP
  rw [hb]
  simp only [hx]
  show Option.map _ (op2f op x (.d y.toD)) = _
  rw [h]
  rfl
/-- _law_of a list of ints -/
theorem s_of {a b c : Int} {m : Nat} (h : UrnOk a b c (m + 1)) (xs : List Int) (h0 : 0 < xs.length) (h1 : xs.length ≤ 1000) : ∃ r a' c', r ∈ xs ∧ UrnOk a' b c' m ∧ ∀ n, ∃ f, callF tab (n + 2) 28 [oU a b c, .d (dL xs)] = some (oI r, [some (oU a' b c'), f]) := by
  obtain ⟨j, a', c', j0, j1, hu, ht⟩ := take_ok h (low := (xs.length : Nat)) (by omega) (by omega)
  refine ⟨xs.getD j.toNat 0, a', c', ?_, hu, fun n => ⟨some (.d (dL xs)), ?_⟩⟩
  · rw [List.getD_eq_getElem?_getD, List.getElem?_eq_getElem (by omega)]
    exact List.getElem_mem _
  · refine call_rt (r := ir__law_of) (env := [some (oU a' b c'), some (.d (dL xs))]) rfl (xs_ret (ev_op2F (p := .slot 1) (x := .d (dL xs)) (y := oI j) rfl (ev_take (k := 1) ht (Nat.le_refl _) rfl (ep_d (ev_fn1 ep_var (len_map (f := PyData.int) rfl)))) rfl ?_))
    refine ix_nat (f := PyData.int) (xs := xs) (k := j.toNat) rfl (by omega) ?_
    rw [List.getD_eq_getElem?_getD, List.getElem?_eq_getElem (by omega)]
    rfl
theorem s_lset {x : D} (xs : List Int) (hx : asSeq (.d x) = some (xs.map .int)) (h1 : xs.length + 1 < 4096) (h2 : (sset xs).length < 64) : Ret tab 1 31 [.d x] (.d (dT (sset xs))) := by
  refine ret_of (r := ir__law_set) rfl fun n => ?_
  have hl : EV (callF tab (n + 0)) (.fn .list [.var 0]) [some (.d x)] (.lst (xs.map oI)) [some (.d x)] := ev_fn1 ep_var (by
    show (match asSeq (.d x) with
      | some xs => some (mkL xs)
      | none => none) = _
    rw [hx]
    show some (O.lst ((xs.map PyData.int).map .d)) = _
    rw [List.map_map]
    rfl)
  have h3 := ep_of hl
  rw [toD_map] at h3
  refine ⟨_, xs_ret (ev_fn1 (ep_of (ev_fn1 h3 (sset_fn rfl h1 h2))) ?_), rfl⟩
  rw [toD_map]
  exact tuple_map
end W02
end

section
/-! k01: what its functions answer (14): _law_flat, _law_above. -/
namespace W02
open PySem L2 PD WM

def rowsOf : D → List D
  | .tuple xs => xs
  | .list xs => xs
  | _ => []
theorem datas_d (xs : List D) : datas (xs.map .d) = some xs := by
  have := datas_map (fun x : D => x) xs
  rw [List.map_id'] at this
  exact this
theorem toD_d (xs : List D) : O.toD (.lst (xs.map .d)) = .list xs := by
  have := toD_map (fun x : D => x) xs
  rw [List.map_id'] at this
  exact this
theorem opAdd_own (xs ys : List D) (h : xs.length + ys.length ≤ 100000) : op2f .add (.lst (xs.map .d)) (.d (.list ys)) = some (.lst ((xs ++ ys).map .d)) := by
  show (match asList (.lst (xs.map .d)), asList (O.d (.list ys)) with
    | some xs, some ys => guardB (decide (xs.length + ys.length ≤ sizeLine)) (some (mkL (xs ++ ys)))
    | _, _ => _) = _
  rw [show asList (.lst (xs.map .d)) = some xs from datas_d xs]
  show guardB (decide (xs.length + ys.length ≤ sizeLine)) _ = _
  rw [decide_eq_true (small_size h)]
  rfl
theorem s_flat {x : D} {ys : List D} (hx : asSeq (.d x) = some ys) (hy : ∀ y ∈ ys, asSeq (.d y) = some (rowsOf y)) (hl : (ys.flatMap rowsOf).length ≤ 100000) : Ret tab 1 30 [.d x] (.lst ((ys.flatMap rowsOf).map .d)) := by
  refine ret_of (r := ir__law_flat) rfl fun n => ?_
  have hs : evSrcF (callF tab (n + 0)) (.seq (.var 0)) [some (.d x), some (.lst []), none] = some (((ys.map fun y => Item.one y), none), [some (.d x), some (.lst []), none]) :=
    es_seq (C := callF tab (n + 0)) (src := .var 0) (o := .d x) (env := [some (.d x), some (.lst []), none]) (ev_var rfl) hx
  obtain ⟨env1, h1, va, h2⟩ := for_inv (I := fun k env => ∃ va, env = [some (.d x), some (.lst (((ys.take k).flatMap rowsOf).map .d)), va]) (f := fun x e => match stTg (.name 2) x e with
      | some e1 => exs (callF tab (n + 0)) [false] [.asg 1 (.op2 .add (.var 1) (.fn .list [(.var 2)]))] e1
      | none => none) (ys.map fun y => Item.one y) 0 [some (.d x), some (.lst []), none] ⟨none, rfl⟩ fun k it env hk hi => by
    rw [List.getElem?_map] at hk
    cases hr : ys[k]? with
    | none => rw [hr] at hk; cases hk
    | some y =>
      rw [hr] at hk
      cases hk
      rw [Nat.zero_add] at hi ⊢
      obtain ⟨va, rfl⟩ := hi
      have hym := List.mem_of_getElem? hr
      have et : ys.take (k + 1) = ys.take k ++ [y] := by rw [List.take_succ, hr]; rfl
      refine ⟨[some (.d x), some (.lst (((ys.take (k + 1)).flatMap rowsOf).map .d)), some (.d y)], ?_, _, rfl⟩
      rw [et, List.flatMap_append, List.flatMap_singleton]
      have hle : ((ys.take k).flatMap rowsOf).length + (rowsOf y).length ≤ 100000 := by
        have e : ys = ys.take (k + 1) ++ ys.drop (k + 1) := (List.take_append_drop _ _).symm
        have : (ys.flatMap rowsOf).length = ((ys.take (k + 1)).flatMap rowsOf).length + ((ys.drop (k + 1)).flatMap rowsOf).length := by
          conv => lhs; rw [e]
          rw [List.flatMap_append, List.length_append]
        rw [et, List.flatMap_append, List.flatMap_singleton, List.length_append] at this
        omega
      show exs _ _ _ _ = _
      refine xs_asg (env := [some (.d x), some (.lst (((ys.take k).flatMap rowsOf).map .d)), some (.d y)]) (ev_op2 (ep_own (os := ((ys.take k).flatMap rowsOf).map .d) rfl (by rw [datas_d]; rfl)) (ep_of (ev_fn1 (o := .lst ((rowsOf y).map .d)) ep_var ?_)) (z := .lst (((ys.take k).flatMap rowsOf ++ rowsOf y).map .d)) ?_) xs_nil
      · show (match asSeq (.d y) with
          | some xs => some (mkL xs)
          | none => none) = _
        rw [hy y hym]
        rfl
      · rw [toD_d]
        exact opAdd_own _ _ hle
  rw [Nat.zero_add, List.length_map, List.take_length] at h2
  exact ⟨_, xs_asg (o := .lst []) rfl (xs_for (env1 := [some (.d x), some (.lst []), none]) hs h1 (by rw [h2]; exact xs_retV rfl)), rfl⟩
theorem flat_rows (found : List (List Int)) : ∀ r : List Int, ((r.map fun near => dT (rw' found near.toNat)).flatMap rowsOf) = (r.flatMap fun near => rw' found near.toNat).map PyData.int
  | [] => rfl
  | a :: l => by
    rw [List.map_cons, List.flatMap_cons, List.flatMap_cons, List.map_append, flat_rows found l]
    rfl
theorem s_labove {w : List (List Int)} (hw : Web w) : Ret tab 2 32 [.d (dW w)] (.lst (oW (ab w))) := by
  refine ret_of (r := ir__law_above) rfl fun n => ?_
  have hlen := hw.len
  have hs : evSrcF (callF tab (n + 1)) (.seq (.var 0)) [some (.d (dW w)), some (.lst []), none, none] = some (((w.map fun r => Item.one (dT r)), none), [some (.d (dW w)), some (.lst []), none, none]) := by
    refine (es_seq (C := callF tab (n + 1)) (src := .var 0) (o := .d (dW w)) (env := [some (.d (dW w)), some (.lst []), none, none]) (ev_var rfl) (xs := w.map dT) rfl).trans ?_
    rw [List.map_map]
    rfl
  obtain ⟨env1, h1, last, h2⟩ := for_inv (I := fun k env => ∃ last, env = [some (.d (dW w)), some (.lst (oW (ab (w.take k)))), last, none]) (f := fun x e => match stTg (.name 2) x e with
      | some e1 => exs (callF tab (n + 1)) [false] [.app 1 (.call 31 [(.op2 .add (.fn .list [(.var 2)]) (.call 30 [(.comp (.op2 .ix (.var 1) (.var 3)) (.name 3) (.seq (.var 2)) none [3])]))])] e1
      | none => none) (w.map fun r => Item.one (dT r)) 0 [some (.d (dW w)), some (.lst []), none, none] ⟨none, rfl⟩ fun k it env hk hi => by
    obtain ⟨hkl, rfl⟩ := opt_get hk
    rw [Nat.zero_add] at hi ⊢
    obtain ⟨last, rfl⟩ := hi
    have hr := get_some hkl
    have hin := clIn_len hw hkl
    have hcl := clRow_len hw hkl
    have hb := (hw.rowOk hkl).bd
    have hfl : (ab (w.take k)).length = k := by rw [ab_len, List.length_take]; omega
    rw [ab_take w k _ hr]
    generalize ab (w.take k) = found at hin hcl hfl
    generalize rw' w k = r at hr hin hcl hb
    refine ⟨[some (.d (dW w)), some (.lst (oW found ++ [.d (dT (clRow found r))])), some (.d (dT r)), none], ?_, _, by rw [snoc_map]⟩
    have hfm := flat_rows found r
    unfold clIn at hin
    rw [List.length_append] at hin
    have hcomp : EV (callF tab (n + 1)) (.comp (.op2 .ix (.var 1) (.var 3)) (.name 3) (.seq (.var 2)) none [3]) [some (.d (dW w)), some (.lst (oW found)), some (.d (dT r)), none] (.lst (r.map fun near => .d (dT (rw' found near.toNat)))) [some (.d (dW w)), some (.lst (oW found)), some (.d (dT r)), none] := by
      have := ev_compM (C := callF tab (n + 1)) (env := [some (.d (dW w)), some (.lst (oW found)), some (.d (dT r)), none]) (elt := .op2 .ix (.var 1) (.var 3)) (tg := .name 3) (src := .seq (.var 2)) (cond := none) (vs := [3]) (xs := r) (emb := fun a => Item.one (.int a)) (w := none) (g := fun near => [O.d (dT (rw' found near.toNat))]) (es_rowD rfl rfl) rfl (fun near hn => by
        have b := hb near hn
        exact turn_all (env1 := [some (.d (dW w)), some (.lst (oW found)), some (.d (dT r)), some (oI near)]) rfl (ix_oW rfl rfl b.1 (by omega)) rfl) (by
        rw [flatMap_one, List.length_map]
        exact small_size (by omega)) rfl
      rw [flatMap_one] at this
      exact this
    have hc2 := ep_of hcomp
    rw [toD_map (fun near : Int => dT (rw' found near.toNat))] at hc2
    have hfl2 := ev_ret (k := 1) (n := n) (s_flat (x := .list (r.map fun near => dT (rw' found near.toNat))) (ys := r.map fun near => dT (rw' found near.toNat)) rfl (fun y hy => by
      obtain ⟨a, _, rfl⟩ := List.mem_map.mp hy
      rfl) (by rw [hfm, List.length_map]; omega)) (Nat.le_refl _) (eps_cons hc2 eps_nil)
    have hc3 := ep_of hfl2
    rw [toD_d, hfm] at hc3
    have hadd := ev_op2 (op := .add) (ep_of (ev_fn1 (f := .list) (e := .var 2) (env := [some (.d (dW w)), some (.lst (oW found)), some (.d (dT r)), none]) (C := callF tab (n + 1)) (x := .d (dT r)) (o := mkL (r.map .int)) ep_var rfl)) hc3 (z := mkL ((clIn found r).map .int)) (by
      rw [toD_mk]
      exact opAdd_LL r _ (by omega))
    have hc4 := ep_of hadd
    rw [toD_mk] at hc4
    show exs _ _ _ _ = _
    refine xs_app (os := oW found) (os1 := oW found) (o := .d (dT (clRow found r))) rfl (ev_ret (k := 1) (s_lset (x := dL (clIn found r)) (clIn found r) rfl (by unfold clIn; rw [List.length_append]; omega) (by unfold clRow at hcl; omega)) (by decide) (eps_cons hc4 eps_nil)) rfl ?_ xs_nil
    show (found.map _).length < sizeLine
    rw [List.length_map, sizeLine_eq]
    omega
  rw [Nat.zero_add, List.length_map, List.take_length] at h2
  exact ⟨_, xs_asg (o := .lst []) rfl (xs_for (env1 := [some (.d (dW w)), some (.lst []), none, none]) hs h1 (by rw [h2]; exact xs_retV rfl)), rfl⟩
end W02
end

section
/-! k01: what its functions answer (15): _law_cells, _law_box. -/
namespace W02
open PySem L2 PD WM

theorem ev_or {C : CallT} {a b : IE} {env env1 env2 : PD.Env} {x y : O} {k : Bool} (ha : EV C a env x env1) (hk : truO x = some k) (hb : k = false → EV C b env1 y env2) (h0 : k = true → y = x ∧ env2 = env1) : EV C (.or a b) env y env2 := by
  show vOr _ _ env = _
  unfold vOr
  rw [ha]
  simp only [hk]
  cases k with
  | false => exact hb rfl
  | true => obtain ⟨rfl, rfl⟩ := h0 rfl; rfl
theorem cut_ints (xs : List Int) (lo hi : Option Int) : slcf (.d (dL xs)) lo hi = some (.lst ((cutD xs lo hi).map oI)) := by
  show some (mkL (cutD (xs.map PyData.int) lo hi)) = _
  have e : cutD (xs.map PyData.int) lo hi = (cutD xs lo hi).map PyData.int := by
    unfold cutD
    rw [List.length_map, List.map_take, List.map_drop]
  rw [e]
  unfold mkL
  rw [List.map_map]
  rfl
theorem enumR_ints (xs : List Int) : enumR (xs.map PyData.int) = xs.zipIdx.map fun p => Item.row [.int (p.2 : Nat), .int p.1] := by
  unfold enumR
  rw [List.zipIdx_map, List.map_map]
  rfl
theorem forL_cons {f : Item → PD.Env → Option Out} {x : Item} {xs : List Item} {env env1 : PD.Env} (h : f x env = some (.nx env1)) : forL f (x :: xs) env = forL f xs env1 := by
  (conv => lhs; unfold forL)
  rw [h]
theorem s_cells (ns : List Int) (h : ns.length ≤ 63) : ∃ v, Ret tab 1 27 [.d (dL ns), oI 1] (.lst [oI v]) := by
  -- the first cell
  have first : ∃ v, ∀ C : CallT, EV C (.or (.fn .list [(.slc (.var 0) none (some (.var 1)))]) (.lst [(.cint 0)])) [some (.d (dL ns)), some (oI 1), none, none, none, none] (.lst [oI v]) [some (.d (dL ns)), some (oI 1), none, none, none, none] := by
    cases ns with
    | nil => exact ⟨0, fun C => ev_or (k := false) (x := .lst []) (env1 := [some (.d (dL [])), some (oI 1), none, none, none, none]) rfl rfl (fun _ => rfl) (fun z => by cases z)⟩
    | cons x xs =>
      refine ⟨x, fun C => ev_or (k := true) (x := .lst [oI x]) (env1 := [some (.d (dL (x :: xs))), some (oI 1), none, none, none, none]) (ev_fn1 (ep_of (ev_slc ep_var ei_none (ei_some (l := 1) ev_var) (cut_ints _ _ _))) ?_) rfl (fun z => by cases z) (fun _ => ⟨rfl, rfl⟩)⟩
      have e : cutD (x :: xs) none (some 1) = [x] := by
        unfold cutD
        have e1 : HT.sIx (x :: xs).length 0 none = 0 := rfl
        have e2 : HT.sIx (x :: xs).length (x :: xs).length (some 1) = 1 := by
          unfold HT.sIx
          simp
        rw [e1, e2]
        rfl
      rw [e]
      rfl
  obtain ⟨v, hv⟩ := first
  -- the walk over the rest
  have hcut : (cutD ns (some 1) (some 63)).length ≤ 63 := by
    unfold cutD
    rw [List.length_take, List.length_drop]
    omega
  generalize hxs : cutD ns (some 1) (some 63) = xs at hcut
  have loop : ∀ (C : CallT) (l : List (Int × Nat)), (∀ p ∈ l, p.2 < 100) → ∀ (v : Int) (va vb vc : Option O), ∃ va' vb' vc', forL (fun x e => match stTg (.tup [3, 4]) x e with
      | some e1 => exs C [false, false] [.asg 5 (.op2 .mod (.fn .int [(.var 3)]) (.var 1)), .setix 2 (.var 5) (.op2 .add (.op2 .ix (.var 2) (.var 5)) (.op2 .mul (.var 4) (.op2 .add (.var 3) (.cint 2))))] e1
      | none => none) (l.map fun p => Item.row [.int (p.2 : Nat), .int p.1]) [some (.d (dL ns)), some (oI 1), some (.lst [oI v]), va, vb, vc] = some (.nx [some (.d (dL ns)), some (oI 1), some (.lst [oI (l.foldl (fun v p => v + p.1 * ((p.2 : Int) + 2)) v)]), va', vb', vc']) := by
    intro C l
    induction l with
    | nil => intro _ v va vb vc; exact ⟨va, vb, vc, by show forL _ [] _ = _; unfold forL; rfl⟩
    | cons p l ih =>
      intro hb v va vb vc
      have hp := hb p List.mem_cons_self
      obtain ⟨va', vb', vc', h⟩ := ih (fun q hq => hb q (List.mem_cons_of_mem _ hq)) (v + p.1 * ((p.2 : Int) + 2)) (some (oI (p.2 : Nat))) (some (oI p.1)) (some (oI 0))
      refine ⟨va', vb', vc', ?_⟩
      have hm : op2f .mod (oI (p.2 : Nat)) (oI 1) = some (oI 0) := by
        rw [op_modN (by decide)]
        have := fmod_bd (p.2 : Int) (b := 1) (by decide)
        congr 2
        omega
      have step : exs C [false, false] [.asg 5 (.op2 .mod (.fn .int [(.var 3)]) (.var 1)), .setix 2 (.var 5) (.op2 .add (.op2 .ix (.var 2) (.var 5)) (.op2 .mul (.var 4) (.op2 .add (.var 3) (.cint 2))))] [some (.d (dL ns)), some (oI 1), some (.lst [oI v]), some (oI (p.2 : Nat)), some (oI p.1), vc] = some (.nx [some (.d (dL ns)), some (oI 1), some (.lst [oI (v + p.1 * ((p.2 : Int) + 2))]), some (oI (p.2 : Nat)), some (oI p.1), some (oI 0)]) := by
        refine xs_asg (ev_op2 (ep_d (ev_intI ep_var)) ep_var hm) (xs_setix (env1 := [some (.d (dL ns)), some (oI 1), some (.lst [oI v]), some (oI (p.2 : Nat)), some (oI p.1), some (oI 0)]) (env2 := [some (.d (dL ns)), some (oI 1), some (.lst [oI v]), some (oI (p.2 : Nat)), some (oI p.1), some (oI 0)]) (z := 0) (ev_op2 (ep_d (ev_op2 (ep_own (os := [oI v]) rfl rfl) ep_var (z := oI v) rfl)) (ep_d (ev_op2 ep_var (ep_d (ev_op2 ep_var (ep_d (e := .cint 2) rfl) (op_addI _ 2))) (op_mulB (.inr (bigB_of (by omega) (by omega)))))) (op_addI _ _)) rfl ev_var rfl rfl xs_nil)
      exact (forL_cons step).trans h
  have hz : ∀ p ∈ xs.zipIdx, p.2 < 100 := fun p hp => by
    have := List.snd_lt_of_mem_zipIdx hp
    omega
  refine ⟨xs.zipIdx.foldl (fun v p => v + p.1 * ((p.2 : Int) + 2)) v, ret_of (r := ir__law_cells) rfl fun n => ?_⟩
  obtain ⟨va, vb, vc, hl⟩ := loop (callF tab (n + 0)) xs.zipIdx hz v none none none
  have hs : evSrcF (callF tab (n + 0)) (.enum (.slc (.var 0) (some (.var 1)) (some (.cint 63)))) [some (.d (dL ns)), some (oI 1), some (.lst [oI v]), none, none, none] = some ((((xs.zipIdx).map fun p => Item.row [.int (p.2 : Nat), .int p.1]), none), [some (.d (dL ns)), some (oI 1), some (.lst [oI v]), none, none, none]) := by
    rw [← enumR_ints]
    refine es_enum (C := callF tab (n + 0)) (o := .lst (xs.map oI)) (by
      have := ev_slc (C := callF tab (n + 0)) (env := [some (.d (dL ns)), some (oI 1), some (.lst [oI v]), none, none, none]) (ep_var (i := 0) rfl) (ei_some (l := 1) (ev_var (i := 1) rfl)) (ei_some (e := .cint 63) (l := 63) rfl) (cut_ints ns (some 1) (some 63))
      rw [hxs] at this
      exact this) (by rw [toD_map]; rfl)
  exact ⟨_, xs_asg (hv _) (xs_for hs hl (xs_retV rfl)), rfl⟩
end W02
end

section
/-! k01: what its functions answer (16): _law_box. -/
namespace W02
open PySem L2 PD WM

theorem s_box (v : Int) : ∃ a b, UrnOk a b 0 1000000 ∧ Ret tab 1 25 [.d (dL [v]), oI 0] (oU a b 0) := by
  generalize hw : (if v < 0 then -v else v) = w
  have hw0 : 0 ≤ w := by rw [← hw]; split <;> omega
  generalize hg : decide ((10 : Int) ^ (18 : Int).toNat ≤ w) = g
  have f := fmod_bd v (b := 2305843009213693951) (by decide)
  refine ⟨w * (if g = true then 1 else 0), v.fmod 2305843009213693951 + 39449 * 0 + 2321926, ⟨?_, by omega, by omega, by omega, by decide⟩, ret_of (r := ir__law_box) rfl fun n => ?_⟩
  · split
    · omega
    · omega
  · have eabs : EV (callF tab (n + 0)) (.fn .abs [(.var 2)]) [some (.d (dL [v])), some (oI 0), some (oI v)] (oI w) [some (.d (dL [v])), some (oI 0), some (oI v)] := ev_fn1 ep_var (by
      show some (oInt (if v < 0 then -v else v)) = _
      rw [hw]
      rfl)
    have epow : EV (callF tab (n + 0)) (.op2 .pow (.cint 10) (.cint 18)) [some (.d (dL [v])), some (oI 0), some (oI v)] (oI (10 ^ (18 : Int).toNat)) [some (.d (dL [v])), some (oI 0), some (oI v)] := ev_op2 (x := oI 10) (y := oI 18) (ep_d rfl) (ep_d rfl) rfl
    have ege : EV (callF tab (n + 0)) (.op2 .ge (.fn .abs [(.var 2)]) (.op2 .pow (.cint 10) (.cint 18))) [some (.d (dL [v])), some (oI 0), some (oI v)] (oB g) [some (.d (dL [v])), some (oI 0), some (oI v)] := ev_op2 (ep_d eabs) (ep_d epow) (by
      show some (oBl (decide ((10 : Int) ^ (18 : Int).toNat ≤ w))) = _
      rw [hg]
      rfl)
    have eint : EV (callF tab (n + 0)) (.fn .int [(.op2 .ge (.fn .abs [(.var 2)]) (.op2 .pow (.cint 10) (.cint 18)))]) [some (.d (dL [v])), some (oI 0), some (oI v)] (oI (if g = true then 1 else 0)) [some (.d (dL [v])), some (oI 0), some (oI v)] := ev_fn1 (ep_d ege) rfl
    have emul : EV (callF tab (n + 0)) (.op2 .mul (.fn .abs [(.var 2)]) (.fn .int [(.op2 .ge (.fn .abs [(.var 2)]) (.op2 .pow (.cint 10) (.cint 18)))])) [some (.d (dL [v])), some (oI 0), some (oI v)] (oI (w * (if g = true then 1 else 0))) [some (.d (dL [v])), some (oI 0), some (oI v)] := ev_op2 (ep_d eabs) (ep_d eint) (op_mulB (.inr (by cases g <;> decide)))
    have eb : EV (callF tab (n + 0)) (.op2 .add (.op2 .add (.op2 .mod (.fn .int [(.var 2)]) (.cint 2305843009213693951)) (.op2 .mul (.cint 39449) (.var 1))) (.cint 2321926)) [some (.d (dL [v])), some (oI 0), some (oI v)] (oI (v.fmod 2305843009213693951 + 39449 * 0 + 2321926)) [some (.d (dL [v])), some (oI 0), some (oI v)] :=
      ev_op2 (ep_d (ev_op2 (ep_d (ev_op2 (ep_d (ev_intI ep_var)) (ep_d (e := .cint 2305843009213693951) rfl) (op_modN (by decide)))) (ep_d (ev_op2 (ep_d (e := .cint 39449) rfl) ep_var (op_mulB (.inl (by decide))))) (op_addI _ _))) (ep_d (e := .cint 2321926) rfl) (op_addI _ _)
    exact ⟨_, xs_asg (o := oI v) (env1 := [some (.d (dL [v])), some (oI 0), none]) rfl (xs_ret (ev_lst (vs_cons emul (vs_cons eb (vs_cons (o := oI 0) rfl vs_nil))) (small_size (show 3 ≤ 100000 by decide)))), rfl⟩
end W02
end

section
/-! k01: what its functions answer (17): _law_mixed. -/
namespace W02
open PySem L2 PD WM

/-- a comprehension's loop by an invariant: G k env out: after k things -/
theorem loop_inv {α : Type} {f : Item → M (List α)} {G : Nat → PD.Env → List α → Prop} : ∀ (items : List Item) (n : Nat) (env : PD.Env) (out : List α), G n env out → (∀ (k : Nat) (x : Item) (env : PD.Env) (out : List α), items[k]? = some x → G (n + k) env out → ∃ ys env1, f x env = some (ys, env1) ∧ G (n + k + 1) env1 (out ++ ys)) →
    ∃ ys env1, loopL none f items env = some (ys, env1) ∧ G (n + items.length) env1 (out ++ ys)
  | [], n, env, out, h, _ => ⟨[], env, by unfold loopL watch; rfl, by rw [List.append_nil]; exact h⟩
  | x :: xs, n, env, out, h, hs => by
    obtain ⟨ys, env1, h1, h2⟩ := hs 0 x env out rfl h
    obtain ⟨zs, env2, h3, h4⟩ := loop_inv xs (n + 1) env1 (out ++ ys) h2 fun k y env2 out2 hk hi => by
      have := hs (k + 1) y env2 out2 (by simpa using hk) (by rw [show n + (k + 1) = n + 1 + k from by omega]; exact hi)
      rw [show n + (k + 1) + 1 = n + 1 + k + 1 from by omega] at this
      exact this
    refine ⟨ys ++ zs, env2, ?_, ?_⟩
    · (conv => lhs; unfold loopL)
      rw [show watch none env = true from rfl, h1]
      show guardB true (match loopL none f xs env1 with
        | some (zs, env2) => some (ys ++ zs, env2)
        | none => none) = _
      rw [h3]
      rfl
    · rw [List.length_cons, show n + (xs.length + 1) = n + 1 + xs.length from by omega, ← List.append_assoc]
      exact h4
/-- _law_mixed of a number -/
theorem s_mix_int (a b c i : Int) (n : Nat) : callF tab (n + 1) 34 [oU a b c, oI i] = some (oI i, [some (oU a b c), some (oI i)]) := by
  refine call_rt (r := ir__law_mixed) (env := [some (oU a b c), some (oI i), none, none]) rfl (xs_if_ret (p := true) (et_not (p := false) (et_bl (ev_isi (ty := .int) ep_var rfl))) ?_)
  rw [if_pos rfl]
  exact xs_retD rfl
theorem ev_op2H {C : CallT} {a b : IE} {env env1 : PD.Env} {op : Op2} {x y z : O} (ha : EV C a env x env1) (hb : EP C b env1 y) (h : op2f op (.d x.toD) y = some z) (hp : (sem C a).p = toP (sem C a).v := by rfl) : EV C (.op2 op a b) env z env1 := by
  obtain ⟨q, h3, h4⟩ := hb
  show vOp2 op _ _ env = _
  unfold vOp2
  rw [hp]
  unfold toP
  rw [ha]
  simp only [h3, h4]
  show Option.map _ (op2f op (.d x.toD) y) = _
  rw [h]
  rfl
theorem ev_iteG {C : CallT} {c a b : IE} {env env1 env2 : PD.Env} {k : Bool} {o : O} (hc : EV C c env (oB k) env1) (ha : k = true → EV C a env1 o env2) (hb : k = false → EV C b env1 o env2) (ht : (sem C c).t = toT (sem C c).v := by rfl) : EV C (.ite c a b) env o env2 := by
  show vIte _ _ _ env = _
  unfold vIte
  rw [ht]
  unfold toT
  rw [hc]
  cases k with
  | true => exact ha rfl
  | false => exact hb rfl
/-- _law_mixed of a row -/
theorem s_mix_row {a b c : Int} {m : Nat} (h : UrnOk a b c (m + 1)) (r : List Int) (hl : r.length ≤ 1000) : ∃ y a' c', SoftR y r ∧ UrnOk a' b c' m ∧ ∀ n, ∃ f, callF tab (n + 2) 34 [oU a b c, .d (dT r)] = some (.d y, [some (oU a' b c'), f]) := by
  obtain ⟨j, a', c', j0, j1, hu, ht⟩ := take_ok h (low := 3) (by decide) (by decide)
  have hcomp : ∀ n, EV (callF tab (n + 1)) (.comp (.call 34 [(.var 0), (.var 3)]) (.name 3) (.seq (.var 1)) none [3]) [some (oU a b c), some (.d (dT r)), none, none] (.lst (r.map oI)) [some (oU a b c), some (.d (dT r)), none, none] := fun n => by
    have := ev_compM (C := callF tab (n + 1)) (env := [some (oU a b c), some (.d (dT r)), none, none]) (elt := .call 34 [(.var 0), (.var 3)]) (tg := .name 3) (src := .seq (.var 1)) (cond := none) (vs := [3]) (xs := r) (emb := fun i => Item.one (.int i)) (w := none) (g := fun i => [oI i]) (es_rowD rfl rfl) rfl (fun i hi => turn_all (env1 := [some (oU a b c), some (.d (dT r)), none, some (oI i)]) (env2 := [some (oU a b c), some (.d (dT r)), none, some (oI i)]) rfl (ev_callL (ps := [.slot 0, .slot 3]) (os := [oU a b c, oI i]) rfl rfl rfl (s_mix_int a b c i n) rfl rfl) rfl) (by rw [flatMap_one, List.length_map]; exact small_size (by omega)) rfl
    rw [flatMap_one] at this
    exact this
  have hcond : ∀ n, EV (callF tab (n + 1)) (.op2 .eq (.call 26 [(.var 0), (.cint 3)]) (.cint 0)) [some (oU a b c), some (.d (dT r)), some (.lst (r.map oI)), none] (oB (decide (j = 0))) [some (oU a' b c'), some (.d (dT r)), some (.lst (r.map oI)), none] := fun n =>
    ev_op2H (ev_take (k := 1) ht (Nat.le_refl _) rfl (ep_d rfl)) (ep_d (e := .cint 0) rfl) (eq_int j 0)
  by_cases hj : j = 0
  · refine ⟨dL r, a', c', .inl rfl, hu, fun n => ⟨some (.d (dT r)), ?_⟩⟩
    refine call_rt (n := n + 1) (r := ir__law_mixed) (env := [some (oU a' b c'), some (.d (dT r)), some (.d (dL r)), none]) rfl (xs_if_no (et_not (p := true) (et_bl (ev_isi (ty := .tuple) ep_var rfl))) (xs_asg (hcomp n) (xs_ret (ev_iteG (k := true) (by
      have := hcond n
      rw [decide_eq_true hj] at this
      exact this) (fun _ => ?_) (fun z => by cases z)))))
    have := ev_own (C := callF tab (n + 1)) (i := 2) (env := [some (oU a' b c'), some (.d (dT r)), some (.lst (r.map oI)), none]) (os := r.map oI) rfl
    rw [toD_map] at this
    exact this
  · refine ⟨dT r, a', c', .inr rfl, hu, fun n => ⟨some (.d (dT r)), ?_⟩⟩
    refine call_rt (n := n + 1) (r := ir__law_mixed) (env := [some (oU a' b c'), some (.d (dT r)), some (.lst (r.map oI)), none]) rfl (xs_if_no (et_not (p := true) (et_bl (ev_isi (ty := .tuple) ep_var rfl))) (xs_asg (hcomp n) (xs_ret (ev_iteG (k := false) (by
      have := hcond n
      rw [decide_eq_false hj] at this
      exact this) (fun z => by cases z) (fun _ => ?_)))))
    refine ev_fn1 (ep_own (os := r.map oI) rfl (by rw [datas_map PyData.int]; rfl)) ?_
    show (match asList (O.lst (r.map oI)) with
      | some xs => some (O.d (.tuple xs))
      | none => _) = _
    rw [asList_map PyData.int]
end W02
end

section
/-! k01: what its functions answer (18): _law_mixed of a web. -/
namespace W02
open PySem L2 PD WM

theorem SoftRs.snoc {ys : List D} {w : List (List Int)} {y : D} {r : List Int} (h : SoftRs ys w) (hy : SoftR y r) : SoftRs (ys ++ [y]) (w ++ [r]) := by
  induction h with
  | nil => exact .cons hy .nil
  | cons h1 _ ih => exact .cons h1 ih
theorem loopL_cons {α : Type} {f : Item → M (List α)} {x : Item} {xs : List Item} {env env1 env2 : PD.Env} {ys zs : List α} (h : f x env = some (ys, env1)) (h2 : loopL none f xs env1 = some (zs, env2)) : loopL none f (x :: xs) env = some (ys ++ zs, env2) := by
  (conv => lhs; unfold loopL)
  rw [show watch none env = true from rfl, h]
  simp only [h2]
  rfl
/-- the urn and the rows that come of mixing, whatever the depth -/
theorem mix_rows {w : List (List Int)} (hl : ∀ r ∈ w, r.length ≤ 1000) : ∀ (rows : List (List Int)) (a b c : Int) (m : Nat), UrnOk a b c (m + rows.length) → (∀ r ∈ rows, r.length ≤ 1000) → ∃ ys a' c', SoftRs ys rows ∧ UrnOk a' b c' m ∧ ∀ n (x : D),
    loopL none (turn1 (.name 3) (semC (callF tab (n + 2)) none) (sem (callF tab (n + 2)) (.call 34 [(.var 0), (.var 3)])).v [3]) (rows.map fun r => Item.one (dT r)) [some (oU a b c), some (.d x), none, none] = some (ys.map .d, [some (oU a' b c'), some (.d x), none, none])
  | [], a, b, c, m, h, _ => ⟨[], a, c, .nil, h, fun n x => by
    show loopL none _ [] _ = _
    unfold loopL watch
    rfl⟩
  | r :: rows, a, b, c, m, h, hr => by
    obtain ⟨y, a1, c1, hy, h1, hf⟩ := s_mix_row (m := m + rows.length) (by rw [List.length_cons] at h; exact h) r (hr r List.mem_cons_self)
    obtain ⟨ys, a', c', hys, h2, hg⟩ := mix_rows hl rows a1 b c1 m h1 fun q hq => hr q (List.mem_cons_of_mem _ hq)
    refine ⟨y :: ys, a', c', .cons hy hys, h2, fun n x => ?_⟩
    obtain ⟨f, hf⟩ := hf n
    have ht : turn1 (.name 3) (semC (callF tab (n + 2)) none) (sem (callF tab (n + 2)) (.call 34 [(.var 0), (.var 3)])).v [3] (Item.one (dT r)) [some (oU a b c), some (.d x), none, none] = some ([.d y], [some (oU a1 b c1), some (.d x), none, none]) := by
      have hc : EV (callF tab (n + 2)) (.call 34 [(.var 0), (.var 3)]) [some (oU a b c), some (.d x), none, some (.d (dT r))] (.d y) [some (oU a1 b c1), some (.d x), none, some (.d (dT r))] :=
        ev_callL (ps := [.slot 0, .slot 3]) (os := [oU a b c, .d (dT r)]) (env1 := [some (oU a b c), some (.d x), none, some (.d (dT r))]) (fin := [some (oU a1 b c1), f]) rfl rfl rfl hf rfl rfl
      unfold turn1
      show guardB true (match tTrue [some (oU a b c), some (.d x), none, some (.d (dT r))] with
        | some (true, e2) => match (sem (callF tab (n + 2)) (.call 34 [(.var 0), (.var 3)])).v e2 with
          | some (o, e3) => some ([o], wipe e3 [3])
          | none => none
        | some (false, e2) => some ([], wipe e2 [3])
        | none => none) = _
      unfold tTrue
      simp only [hc]
      rfl
    exact loopL_cons ht (hg n x)
theorem s_mix_web {a b c : Int} {m : Nat} {w : List (List Int)} (h : UrnOk a b c (m + 1 + w.length)) (hl : w.length ≤ 1000) (hr : ∀ r ∈ w, r.length ≤ 1000) : ∃ y a' c', Soft y w ∧ UrnOk a' b c' m ∧ ∀ n, ∃ f, callF tab (n + 3) 34 [oU a b c, .d (dW w)] = some (.d y, [some (oU a' b c'), f]) := by
  obtain ⟨ys, a1, c1, hys, h1, hg⟩ := mix_rows hr w a b c (m + 1) h hr
  obtain ⟨j, a', c', j0, j1, hu, ht⟩ := take_ok h1 (low := 3) (by decide) (by decide)
  have hyl := hys.length
  have hcomp : ∀ n, EV (callF tab (n + 2)) (.comp (.call 34 [(.var 0), (.var 3)]) (.name 3) (.seq (.var 1)) none [3]) [some (oU a b c), some (.d (dW w)), none, none] (.lst (ys.map .d)) [some (oU a1 b c1), some (.d (dW w)), none, none] := fun n => by
    show vComp (semS (callF tab (n + 2)) (.seq (.var 1))) (turn1 (.name 3) (semC (callF tab (n + 2)) none) (sem (callF tab (n + 2)) (.call 34 [(.var 0), (.var 3)])).v [3]) [3] [some (oU a b c), some (.d (dW w)), none, none] = _
    unfold vComp
    have hs : semS (callF tab (n + 2)) (.seq (.var 1)) [some (oU a b c), some (.d (dW w)), none, none] = some (((w.map fun r => Item.one (dT r)), none), [some (oU a b c), some (.d (dW w)), none, none]) := by
      refine (es_varD (i := 1) (x := dW w) (env := [some (oU a b c), some (.d (dW w)), none, none]) (xs := w.map dT) rfl rfl).trans ?_
      rw [List.map_map]
      rfl
    rw [hs]
    simp only
    rw [show wipe [some (oU a b c), some (.d (dW w)), none, none] [3] = [some (oU a b c), some (.d (dW w)), none, none] from rfl, hg n (dW w)]
    simp only [guardB]
    rw [decide_eq_true (show (ys.map O.d).length ≤ sizeLine by rw [List.length_map]; exact small_size (by omega))]
    rfl
  have hcond : ∀ n, EV (callF tab (n + 2)) (.op2 .eq (.call 26 [(.var 0), (.cint 3)]) (.cint 0)) [some (oU a1 b c1), some (.d (dW w)), some (.lst (ys.map .d)), none] (oB (decide (j = 0))) [some (oU a' b c'), some (.d (dW w)), some (.lst (ys.map .d)), none] := fun n =>
    ev_op2H (ev_take (k := 2) ht (by decide) rfl (ep_d rfl)) (ep_d (e := .cint 0) rfl) (eq_int j 0)
  by_cases hj : j = 0
  · refine ⟨.list ys, a', c', ⟨ys, .inl rfl, hys⟩, hu, fun n => ⟨some (.d (dW w)), ?_⟩⟩
    refine call_rt (n := n + 2) (r := ir__law_mixed) (env := [some (oU a' b c'), some (.d (dW w)), some (.d (.list ys)), none]) rfl (xs_if_no (et_not (p := true) (et_bl (ev_isi (ty := .tuple) ep_var rfl))) (xs_asg (hcomp n) (xs_ret (ev_iteG (k := true) (by
      have := hcond n
      rw [decide_eq_true hj] at this
      exact this) (fun _ => ?_) (fun z => by cases z)))))
    have := ev_own (C := callF tab (n + 2)) (i := 2) (env := [some (oU a' b c'), some (.d (dW w)), some (.lst (ys.map .d)), none]) (os := ys.map .d) rfl
    rw [toD_d] at this
    exact this
  · refine ⟨.tuple ys, a', c', ⟨ys, .inr rfl, hys⟩, hu, fun n => ⟨some (.d (dW w)), ?_⟩⟩
    refine call_rt (n := n + 2) (r := ir__law_mixed) (env := [some (oU a' b c'), some (.d (dW w)), some (.lst (ys.map .d)), none]) rfl (xs_if_no (et_not (p := true) (et_bl (ev_isi (ty := .tuple) ep_var rfl))) (xs_asg (hcomp n) (xs_ret (ev_iteG (k := false) (by
      have := hcond n
      rw [decide_eq_false hj] at this
      exact this) (fun z => by cases z) (fun _ => ?_)))))
    refine ev_fn1 (ep_own (os := ys.map .d) rfl (by rw [datas_d]; rfl)) ?_
    show (match asList (O.lst (ys.map .d)) with
      | some xs => some (O.d (.tuple xs))
      | none => _) = _
    rw [show asList (O.lst (ys.map .d)) = some ys from datas_d ys]
end W02
end

section
/-! k01: what its functions answer (19): _law_some. -/
namespace W02
open PySem L2 PD WM

/-- _law_of a lent list -/
theorem s_ofL {a b c : Int} {m : Nat} (h : UrnOk a b c (m + 1)) (xs : List Int) (h0 : 0 < xs.length) (h1 : xs.length ≤ 1000) : ∃ r a' c', r ∈ xs ∧ UrnOk a' b c' m ∧ ∀ n, callF tab (n + 2) 28 [oU a b c, .lst (xs.map oI)] = some (oI r, [some (oU a' b c'), some (.lst (xs.map oI))]) := by
  obtain ⟨j, a', c', j0, j1, hu, ht⟩ := take_ok h (low := (xs.length : Nat)) (by omega) (by omega)
  refine ⟨xs.getD j.toNat 0, a', c', ?_, hu, fun n => ?_⟩
  · rw [List.getD_eq_getElem?_getD, List.getElem?_eq_getElem (by omega)]
    exact List.getElem_mem _
  · refine call_rt (r := ir__law_of) (env := [some (oU a' b c'), some (.lst (xs.map oI))]) rfl (xs_ret (ev_op2F (p := .slot 1) (x := .lst (xs.map oI)) (y := oI j) ?_ (ev_take (k := 1) ht (Nat.le_refl _) rfl (ep_d (ev_fn1 (ep_own (os := xs.map oI) rfl (by rw [datas_map PyData.int]; rfl)) (len_map (asSeq_map PyData.int xs))))) rfl ?_))
    · show pVar 1 [some (oU a b c), some (.lst (xs.map oI))] = _
      unfold pVar
      show (if (datas (xs.map oI)).isSome = true then _ else _) = _
      rw [datas_map PyData.int]
      rfl
    · refine ix_nat (f := PyData.int) (xs := xs) (k := j.toNat) (asSeq_map PyData.int xs) (by omega) ?_
      rw [List.getD_eq_getElem?_getD, List.getElem?_eq_getElem (by omega)]
      rfl
end W02
end

section
/-! k01: what its functions answer (20): _law_great. -/
namespace W02
open PySem L2 PD WM

/-- a loop over numbers, each kept or not, the urn changing: E u is the environment with the urn u -/
theorem draw_loop {f : Nat → Item → M (List O)} {E : Int → Int → Int → PD.Env} (hw : ∀ a b c, watch none (E a b c) = true) : ∀ (xs : List Int) (a b c : Int) (m : Nat), UrnOk a b c (m + xs.length) →
    (∀ x ∈ xs, ∀ a b c m, UrnOk a b c (m + 1) → ∃ k a' c', UrnOk a' b c' m ∧ ∀ n, f n (Item.one (.int x)) (E a b c) = some (if k = true then [oI x] else [], E a' b c')) →
    ∃ (ys : List Int) (a' c' : Int), ys.Sublist xs ∧ UrnOk a' b c' m ∧ ∀ n, loopL none (f n) (xs.map fun x => Item.one (.int x)) (E a b c) = some (ys.map oI, E a' b c')
  | [], a, b, c, m, h, _ => ⟨[], a, c, .slnil, h, fun n => by show loopL none (f n) [] _ = _; unfold loopL; rw [hw]; rfl⟩
  | x :: xs, a, b, c, m, h, hf => by
    obtain ⟨k, a1, c1, h1, e1⟩ := hf x List.mem_cons_self a b c (m + xs.length) (by rw [List.length_cons] at h; exact h)
    obtain ⟨ys, a', c', hs, h2, e2⟩ := draw_loop hw xs a1 b c1 m h1 fun y hy => hf y (List.mem_cons_of_mem _ hy)
    cases k with
    | true => exact ⟨x :: ys, a', c', hs.cons_cons x, h2, fun n => loopL_cons (e1 n) (e2 n)⟩
    | false => exact ⟨ys, a', c', hs.cons x, h2, fun n => loopL_cons (e1 n) (e2 n)⟩
end W02
end

section
/-! k01: what its functions answer (21): _law_some. -/
namespace W02
open PySem L2 PD WM

theorem _root_.W02.UrnOk.less {a b c : Int} {m k : Nat} (h : UrnOk a b c m) (hk : k ≤ m) : UrnOk a b c k := ⟨h.a0, h.b0, h.b1, h.c0, by have := h.c1; omega⟩
theorem ix_last {C : CallT} {env : PD.Env} {i : Nat} {ys : List Int} {r : Int} (h : look env i = some (.lst ((ys ++ [r]).map oI))) : EV C (.op2 .ix (.var i) (.op1 .neg (.cint 1))) env (oI r) env := by
  refine ev_op2 (y := oI (-1)) (ep_own h (by rw [datas_map PyData.int]; rfl)) (ep_d (ev_neg (i := 1) (ep_d rfl))) ?_
  show (match asSeq (O.lst ((ys ++ [r]).map oI)), asInt (oI (-1)) with
    | some xs, some i => (atI xs i).map O.d
    | _, _ => none) = _
  rw [asSeq_map PyData.int]
  show (atI ((ys ++ [r]).map PyData.int) (-1)).map O.d = _
  unfold atI
  have e : ixN ((ys ++ [r]).map PyData.int).length (-1) = some ys.length := by
    rw [List.length_map, List.length_append, List.length_singleton]
    unfold ixN
    simp
    omega
  rw [e]
  show (((ys ++ [r]).map PyData.int)[ys.length]?).map O.d = _
  rw [List.getElem?_map, List.getElem?_append_right (Nat.le_refl _), Nat.sub_self]
  rfl
theorem s_some (n : Nat) {a b c : Int} {m : Nat} (h : UrnOk a b c (m + 60)) (xs : List Int) (hn : xs.Nodup) (hx : xs.length ≤ 60) (many : Int) (hm : 0 ≤ many) : ∃ (found : List Int) (a' c' : Int) (f1 f2 : Option O), (∀ x ∈ found, x ∈ xs) ∧ found.length ≤ 60 ∧ (0 < many → 0 < xs.length → 0 < found.length) ∧ UrnOk a' b c' m ∧ callF tab (n + 3) 33 [oU a b c, .d (dL xs), oI many] = some (.lst (found.map oI), [some (oU a' b c'), f1, f2]) := by
  have hmin : ∃ cnt : Nat, (cnt : Int) = (if (xs.length : Int) < many then (xs.length : Int) else many) := ⟨(if (xs.length : Int) < many then (xs.length : Int) else many).toNat, by split <;> omega⟩
  obtain ⟨cnt, hcnt⟩ := hmin
  have hcl : cnt ≤ xs.length := by
    have : (cnt : Int) ≤ (xs.length : Int) := by rw [hcnt]; split <;> omega
    omega
  have hlist : EV (callF tab (n + 2)) (.fn .list [(.var 1)]) [some (oU a b c), some (.d (dL xs)), some (oI many), none, none, none, none] (.lst (xs.map oI)) [some (oU a b c), some (.d (dL xs)), some (oI many), none, none, none, none] := ev_fn1 ep_var (by
    show some (mkL (xs.map PyData.int)) = _
    unfold mkL
    rw [List.map_map]
    rfl)
  have hs : evSrcF (callF tab (n + 2)) (.rng1 (.fn .min2 [(.var 2), (.fn .len [(.var 3)])])) [some (oU a b c), some (.d (dL xs)), some (oI many), some (.lst (xs.map oI)), some (.lst []), none, none] = some ((((List.range cnt).map fun k => Item.one (.int (k : Nat))), none), [some (oU a b c), some (.d (dL xs)), some (oI many), some (.lst (xs.map oI)), some (.lst []), none, none]) := by
    refine es_rngN (C := callF tab (n + 2)) (n := cnt) (env := [some (oU a b c), some (.d (dL xs)), some (oI many), some (.lst (xs.map oI)), some (.lst []), none, none]) (ev_fn (os := [oI many, oI (xs.length : Nat)]) (eps_cons ep_var (eps_cons (ep_d (ev_fn1 (ep_own (os := xs.map oI) rfl (by rw [datas_map PyData.int]; rfl)) (len_map (asSeq_map PyData.int xs)))) eps_nil)) ?_) (by omega)
    show some (oInt (if (xs.length : Int) < many then (xs.length : Int) else many)) = _
    rw [hcnt]
    rfl
  obtain ⟨env1, h1, a1, c1, left, found, lap, hu, hnd, hll, hfl, hfx, hlx, rfl⟩ := for_inv (I := fun k env => ∃ (a' c' : Int) (left found : List Int) (lap : Option O), UrnOk a' b c' (m + 60 - k) ∧ left.Nodup ∧ left.length = xs.length - k ∧ found.length = k ∧ (∀ x ∈ found, x ∈ xs) ∧ (∀ x ∈ left, x ∈ xs) ∧ env = [some (oU a' b c'), some (.d (dL xs)), some (oI many), some (.lst (left.map oI)), some (.lst (found.map oI)), lap, none]) (f := fun x e => match stTg (.name 5) x e with
      | some e1 => exs (callF tab (n + 2)) [true, false, false] [.app 4 (.call 28 [(.var 0), (.var 3)]),
    .asg 3 (.comp (.var 6) (.name 6) (.seq (.var 3)) (some (.op2 .ne (.var 6) (.op2 .ix (.var 4) (.op1 .neg (.cint 1))))) [6])] e1
      | none => none) ((List.range cnt).map fun k => Item.one (.int (k : Nat))) 0 [some (oU a b c), some (.d (dL xs)), some (oI many), some (.lst (xs.map oI)), some (.lst []), none, none] ⟨a, c, xs, [], none, h, hn, rfl, rfl, fun x hx => absurd hx List.not_mem_nil, fun x hx => hx, rfl⟩ fun k it env hk hi => by
    rw [Nat.zero_add] at hi ⊢
    obtain ⟨a1, c1, left, found, lap, hu, hnd, hll, hfl, hfx, hlx, rfl⟩ := hi
    have hkc : k < cnt := by
      by_cases q : k < cnt
      · exact q
      · rw [List.getElem?_eq_none (by simpa using q)] at hk; cases hk
    rw [List.getElem?_map, List.getElem?_range hkc] at hk
    cases hk
    obtain ⟨r, a2, c2, hr, hu2, hof⟩ := s_ofL (m := m + 60 - (k + 1)) (hu.less (by omega)) left (by omega) (by omega)
    have hcall : EV (callF tab (n + 2)) (.call 28 [(.var 0), (.var 3)]) [some (oU a1 b c1), some (.d (dL xs)), some (oI many), some (.lst (left.map oI)), some (.lst (found.map oI)), some (oI (k : Nat)), none] (oI r) [some (oU a2 b c2), some (.d (dL xs)), some (oI many), some (.lst (left.map oI)), some (.lst (found.map oI)), some (oI (k : Nat)), none] := by
      refine ev_callL (ps := [.slot 0, .slot 3]) (os := [oU a1 b c1, .lst (left.map oI)]) (env1 := [some (oU a1 b c1), some (.d (dL xs)), some (oI many), some (.lst (left.map oI)), some (.lst (found.map oI)), some (oI (k : Nat)), none]) ?_ rfl rfl (hof n) rfl rfl
      show mCons (pVar 0) (mCons (pVar 3) mNil) _ = _
      unfold mCons
      have e3 : pVar 3 [some (oU a1 b c1), some (.d (dL xs)), some (oI many), some (.lst (left.map oI)), some (.lst (found.map oI)), some (oI (k : Nat)), none] = some (.slot 3, [some (oU a1 b c1), some (.d (dL xs)), some (oI many), some (.lst (left.map oI)), some (.lst (found.map oI)), some (oI (k : Nat)), none]) := by
        unfold pVar
        show (if (datas (left.map oI)).isSome = true then _ else _) = _
        rw [datas_map PyData.int]
        rfl
      have e0 : pVar 0 [some (oU a1 b c1), some (.d (dL xs)), some (oI many), some (.lst (left.map oI)), some (.lst (found.map oI)), some (oI (k : Nat)), none] = some (.slot 0, [some (oU a1 b c1), some (.d (dL xs)), some (oI many), some (.lst (left.map oI)), some (.lst (found.map oI)), some (oI (k : Nat)), none]) := rfl
      rw [e0]
      simp only
      rw [e3]
      rfl
    have hcomp := ev_compM (C := callF tab (n + 2)) (env := [some (oU a2 b c2), some (.d (dL xs)), some (oI many), some (.lst (left.map oI)), some (.lst ((found ++ [r]).map oI)), some (oI (k : Nat)), none]) (elt := .var 6) (tg := .name 6) (src := .seq (.var 3)) (cond := some (.op2 .ne (.var 6) (.op2 .ix (.var 4) (.op1 .neg (.cint 1))))) (vs := [6]) (xs := left) (emb := fun i => Item.one (.int i)) (w := some (3, left.map .int)) (g := fun i => if (!decide (i = r)) = true then [oI i] else []) (by
        refine (es_varL (i := 3) (env := [some (oU a2 b c2), some (.d (dL xs)), some (oI many), some (.lst (left.map oI)), some (.lst ((found ++ [r]).map oI)), some (oI (k : Nat)), none]) (os := left.map oI) rfl (datas_map PyData.int left)).trans ?_
        rw [List.map_map]
        rfl) (watch_own (os := left.map oI) rfl (datas_map PyData.int left) (noDs_map _ noD_int left)) (fun i hi => turn_if (env1 := [some (oU a2 b c2), some (.d (dL xs)), some (oI many), some (.lst (left.map oI)), some (.lst ((found ++ [r]).map oI)), some (oI (k : Nat)), some (oI i)]) rfl (et_bl (ev_op2 ep_var (ep_d (ix_last (ys := found) (r := r) rfl)) (ne_int i r))) (fun _ => ev_var) rfl) (filter_size (by omega)) rfl
    rw [flatMap_if (fun i => !decide (i = r)) (fun i => oI i)] at hcomp
    refine ⟨[some (oU a2 b c2), some (.d (dL xs)), some (oI many), some (.lst ((left.filter fun i => !decide (i = r)).map oI)), some (.lst ((found ++ [r]).map oI)), some (oI (k : Nat)), none], ?_, a2, c2, left.filter (fun i => !decide (i = r)), found ++ [r], _, hu2, hnd.filter _, ?_, by rw [List.length_append, List.length_singleton, hfl], fun x hx' => ?_, fun x hx' => hlx x (List.mem_filter.mp hx').1, rfl⟩
    · show exs _ _ _ _ = _
      refine xs_app (os := found.map oI) (os1 := found.map oI) (o := oI r) rfl hcall rfl (by rw [List.length_map, sizeLine_eq]; omega) (xs_asg (env1 := [some (oU a2 b c2), some (.d (dL xs)), some (oI many), some (.lst (left.map oI)), some (.lst ((found ++ [r]).map oI)), some (oI (k : Nat)), none]) ?_ xs_nil)
      rw [← snoc_map] at hcomp ⊢
      exact hcomp
    · have e : left.filter (fun i => !decide (i = r)) = left.erase r := by
        rw [List.Nodup.erase_eq_filter hnd]
        refine List.filter_congr fun i _ => ?_
        by_cases q : i = r <;> simp [q]
      rw [e, List.length_erase_of_mem hr]
      omega
    · rcases List.mem_append.mp hx' with z | z
      · exact hfx x z
      · rw [List.mem_singleton.mp z]
        exact hlx r hr
  rw [Nat.zero_add, List.length_map, List.length_range] at hu hll hfl
  refine ⟨found, a1, c1, some (.d (dL xs)), some (oI many), hfx, by omega, fun z1 z2 => (by rw [hfl]; split at hcnt <;> omega), hu.less (by omega), ?_⟩
  exact call_rt (n := n + 2) (r := ir__law_some) (env := [some (oU a1 b c1), some (.d (dL xs)), some (oI many), some (.lst (left.map oI)), none, lap, none]) rfl (xs_pars (os := [.lst (xs.map oI), .lst []]) (env1 := [some (oU a b c), some (.d (dL xs)), some (oI many), none, none, none, none]) (vs_cons hlist (vs_cons (o := .lst []) rfl vs_nil)) (xs_for hs h1 (xs_retV rfl)))
end W02
end

section
/-! k01: what its functions answer (22): _law_great. -/
namespace W02
open PySem L2 PD WM

theorem et_gen {C : CallT} {e : IE} {env env1 : PD.Env} {k : Bool} (h : EV C e env (oB k) env1) (ht : (sem C e).t = toT (sem C e).v := by rfl) : (sem C e).t env = some (k, env1) := by
  rw [ht]
  unfold toT
  rw [h]
  rfl
/-- a loop over numbers with draws: those kept are as P says -/
theorem draw_loopP {f : Item → M (List O)} {E : Int → Int → Int → PD.Env} (P : Int → Prop) : ∀ (xs : List Int) (a b c : Int) (m : Nat), UrnOk a b c (m + xs.length) →
    (∀ x ∈ xs, ∀ a b c m, UrnOk a b c (m + 1) → ∃ k a' c', (k = true → P x) ∧ UrnOk a' b c' m ∧ f (Item.one (.int x)) (E a b c) = some (if k = true then [oI x] else [], E a' b c')) →
    ∃ (ys : List Int) (a' c' : Int), ys.Sublist xs ∧ (∀ y ∈ ys, P y) ∧ UrnOk a' b c' m ∧ loopL none f (xs.map fun x => Item.one (.int x)) (E a b c) = some (ys.map oI, E a' b c')
  | [], a, b, c, m, h, _ => ⟨[], a, c, .slnil, fun y hy => absurd hy List.not_mem_nil, h, by show loopL none f [] _ = _; unfold loopL; rfl⟩
  | x :: xs, a, b, c, m, h, hf => by
    obtain ⟨k, a1, c1, hp, h1, e1⟩ := hf x List.mem_cons_self a b c (m + xs.length) (by rw [List.length_cons] at h; exact h)
    obtain ⟨ys, a', c', hs, hy, h2, e2⟩ := draw_loopP P xs a1 b c1 m h1 fun y hy => hf y (List.mem_cons_of_mem _ hy)
    cases k with
    | true => exact ⟨x :: ys, a', c', hs.cons_cons x, fun y hy' => (List.mem_cons.mp hy').elim (fun z => z ▸ hp rfl) (hy y), h2, loopL_cons e1 e2⟩
    | false => exact ⟨ys, a', c', hs.cons x, hy, h2, loopL_cons e1 e2⟩
/-- a draw in a condition -/
theorem draw_eq {n k : Nat} (hk : 1 ≤ k) {env : Int → Int → Int → PD.Env} (h0 : ∀ a b c, look (env a b c) 0 = some (oU a b c)) (h1 : ∀ a b c a' c', (env a b c).set 0 (some (oU a' b c')) = env a' b c') (low : Int) (l0 : 0 < low) (l1 : low ≤ 1000000) {a b c : Int} {m : Nat} (h : UrnOk a b c (m + 1)) : ∃ q a' c', UrnOk a' b c' m ∧ EV (callF tab (n + k)) (.op2 .eq (.call 26 [(.var 0), (.cint low)]) (.cint 0)) (env a b c) (oB q) (env a' b c') := by
  obtain ⟨j, a', c', j0, j1, hu, ht⟩ := take_ok h l0 l1
  refine ⟨decide (j = 0), a', c', hu, ?_⟩
  have := ev_take (n := n) (k := k) (i := 0) (e := .cint low) (env := env a b c) ht hk (h0 a b c) (ep_d rfl)
  rw [h1] at this
  exact ev_op2H this (ep_d (e := .cint 0) rfl) (eq_int j 0)
theorem draw_gt {n k : Nat} (hk : 1 ≤ k) {env : Int → Int → Int → PD.Env} (h0 : ∀ a b c, look (env a b c) 0 = some (oU a b c)) (h1 : ∀ a b c a' c', (env a b c).set 0 (some (oU a' b c')) = env a' b c') (low : Int) (l0 : 0 < low) (l1 : low ≤ 1000000) {a b c : Int} {m : Nat} (h : UrnOk a b c (m + 1)) : ∃ q a' c', UrnOk a' b c' m ∧ EV (callF tab (n + k)) (.op2 .gt (.call 26 [(.var 0), (.cint low)]) (.cint 0)) (env a b c) (oB q) (env a' b c') := by
  obtain ⟨j, a', c', j0, j1, hu, ht⟩ := take_ok h l0 l1
  refine ⟨decide (0 < j), a', c', hu, ?_⟩
  have := ev_take (n := n) (k := k) (i := 0) (e := .cint low) (env := env a b c) ht hk (h0 a b c) (ep_d rfl)
  rw [h1] at this
  exact ev_op2H this (ep_d (e := .cint 0) rfl) (op_gtI j 0)
/-- row k of a web's beginning -/
def rowsOk (w : List (List Int)) : Prop := ∀ (k : Nat) (r : List Int), w[k]? = some r → RowOk k r
theorem rowsOk_snoc {w : List (List Int)} {r : List Int} (h : rowsOk w) (hr : RowOk w.length r) : rowsOk (w ++ [r]) := fun k q hq => by
  rw [List.getElem?_append] at hq
  split at hq
  · exact h k q hq
  · rename_i hk
    have : k - w.length = 0 := by
      by_cases z : k - w.length = 0
      · exact z
      · rw [List.getElem?_eq_none (by rw [List.length_singleton]; omega)] at hq; cases hq
    rw [this] at hq
    cases hq
    rw [show k = w.length from by omega]
    exact hr
theorem xs_ifs_asg {C : CallT} {bor : List Bool} {c e : IE} {s2 ss : List IS} {env env1 : PD.Env} {i : Nat} {o : O} {out : Option Out} (hc : ET C c env true) (he : EV C e env o env1) (hm : mayB bor i = true) (h : exs C bor ss (env1.set i (some o)) = out) : exs C bor (.ifs c [.asg i e] s2 :: ss) env = out := by
  refine xs_if hc ?_
  rw [if_pos rfl, xs_asg (ss := []) he xs_nil hm]
  exact h
theorem xs_ifs_el {C : CallT} {bor : List Bool} {c : IE} {s1 ss : List IS} {s : IS} {env env1 : PD.Env} {out : Option Out} (hc : ET C c env false) (he : exs C bor [s] env = some (.nx env1)) (h : exs C bor ss env1 = out) : exs C bor (.ifs c s1 [s] :: ss) env = out := by
  refine xs_if hc ?_
  rw [if_neg (by decide), he]
  exact h
theorem rngI_asc (l : Int) (n : Nat) : ((List.range n).map fun k => l + (k : Nat)).Pairwise (· < ·) := by
  rw [List.pairwise_map]
  exact List.pairwise_lt_range.imp fun {a b} h => by omega
end W02
end

section
/-! k01: plain mathematics of webs. -/
namespace W02
open PD WM

theorem asc_ext : ∀ (xs ys : List Int), xs.Pairwise (· < ·) → ys.Pairwise (· < ·) → (∀ a, a ∈ xs ↔ a ∈ ys) → xs = ys
  | [], [], _, _, _ => rfl
  | [], y :: ys, _, _, h => absurd ((h y).mpr List.mem_cons_self) List.not_mem_nil
  | x :: xs, [], _, _, h => absurd ((h x).mp List.mem_cons_self) List.not_mem_nil
  | x :: xs, y :: ys, hx, hy, h => by
    have hx' := List.pairwise_cons.mp hx
    have hy' := List.pairwise_cons.mp hy
    have e : x = y := by
      rcases List.mem_cons.mp ((h x).mp List.mem_cons_self) with z | z
      · exact z
      · rcases List.mem_cons.mp ((h y).mpr List.mem_cons_self) with w | w
        · exact w.symm
        · have := hx'.1 y w
          have := hy'.1 x z
          omega
    subst e
    rw [asc_ext xs ys hx'.2 hy'.2 fun a => ?_]
    constructor
    · intro ha
      have := hx'.1 a ha
      rcases List.mem_cons.mp ((h a).mp (List.mem_cons_of_mem _ ha)) with z | z
      · omega
      · exact z
    · intro ha
      have := hy'.1 a ha
      rcases List.mem_cons.mp ((h a).mpr (List.mem_cons_of_mem _ ha)) with z | z
      · omega
      · exact z
theorem web_ext {w v : List (List Int)} (h : w.length = v.length) (hr : ∀ k, k < w.length → rw' w k = rw' v k) : w = v := by
  apply List.ext_getElem?
  intro i
  by_cases hi : i < w.length
  · rw [get_some hi, get_some (by omega), hr i hi]
  · rw [List.getElem?_eq_none (by omega), List.getElem?_eq_none (by omega)]
section
variable {w : List (List Int)} (hw : Web w)
include hw
theorem sub_ab {k : Nat} (hk : k < w.length) {x : Int} (h : x ∈ rw' w k) : x ∈ rw' (ab w) k := (mem_ab hw hk x).mpr (.inl h)
/-- what is ahead of something ahead is ahead -/
theorem ab_trans : ∀ k, k < w.length → ∀ x y : Int, y ∈ rw' (ab w) k → x ∈ rw' (ab w) y.toNat → x ∈ rw' (ab w) k := by
  intro k
  induction k using Nat.strongRecOn with
  | ind k ih =>
    intro hk x y hy hx
    rcases (mem_ab hw hk y).mp hy with h | ⟨near, hn, h⟩
    · exact (mem_ab hw hk x).mpr (.inr ⟨y, h, hx⟩)
    · have b := (hw.rowOk hk).bd near hn
      exact (mem_ab hw hk x).mpr (.inr ⟨near, hn, ih near.toNat (by omega) (by omega) x y h hx⟩)
theorem ab_src : ∀ k, k < w.length → ∀ x, x ∈ rw' (ab w) k → ∃ j, j < w.length ∧ x ∈ rw' w j := by
  intro k
  induction k using Nat.strongRecOn with
  | ind k ih =>
    intro hk x hx
    rcases (mem_ab hw hk x).mp hx with h | ⟨near, hn, h⟩
    · exact ⟨k, hk, h⟩
    · have b := (hw.rowOk hk).bd near hn
      exact ih near.toNat (by omega) (by omega) x h
theorem ab_bd {k : Nat} (hk : k < w.length) {x : Int} (h : x ∈ rw' (ab w) k) : 0 ≤ x ∧ x < k := (ab_row hw k hk).bd x h
/-- the last ones -/
theorem last_iff {d : Nat} (hd : d < w.length) : (blw w d = []) ↔ ¬ (d : Int) ∈ waited w := by
  unfold waited
  rw [sset_mem, List.mem_flatMap]
  unfold blw
  rw [List.map_eq_nil_iff, List.filter_eq_nil_iff]
  constructor
  · rintro h ⟨k, hk, hm⟩
    exact h k hk (decide_eq_true (sub_ab hw (List.mem_range.mp hk) hm))
  · intro h k hk hm
    obtain ⟨j, hj, hm⟩ := ab_src hw k (List.mem_range.mp hk) _ (of_decide_eq_true hm)
    exact h ⟨j, List.mem_range.mpr hj, hm⟩

/-! ### the bare web -/
theorem mem_fur {k : Nat} (x : Int) : x ∈ further (ab w) (rw' (ab w) k) ↔ ∃ near ∈ rw' (ab w) k, x ∈ rw' (ab w) near.toNat := by
  unfold further
  rw [sset_mem]
  unfold furIn
  rw [List.mem_flatMap]
theorem mem_bare {k : Nat} (hk : k < w.length) (x : Int) : x ∈ rw' (bare w) k ↔ x ∈ rw' (ab w) k ∧ ¬ ∃ near ∈ rw' (ab w) k, x ∈ rw' (ab w) near.toNat := by
  rw [bare_get hk]
  unfold bareRow
  rw [List.mem_filter, ← mem_fur hw]
  simp
theorem bare_sub {k : Nat} (hk : k < w.length) {x : Int} (h : x ∈ rw' (bare w) k) : x ∈ rw' w k := by
  have h' := (mem_bare hw hk x).mp h
  rcases (mem_ab hw hk x).mp h'.1 with z | ⟨near, hn, z⟩
  · exact z
  · exact absurd ⟨near, sub_ab hw hk hn, z⟩ h'.2
theorem bare_top {k : Nat} (hk : k < w.length) : ∀ (m : Nat) (x : Int), x ∈ rw' (ab w) k → k - x.toNat ≤ m → ∃ y ∈ rw' (bare w) k, x = y ∨ x ∈ rw' (ab w) y.toNat := by
  intro m
  induction m with
  | zero =>
    intro x hx hm
    have := ab_bd hw hk hx
    omega
  | succ m ih =>
    intro x hx hm
    by_cases hb : x ∈ rw' (bare w) k
    · exact ⟨x, hb, .inl rfl⟩
    · by_cases h : ∃ near ∈ rw' (ab w) k, x ∈ rw' (ab w) near.toNat
      · obtain ⟨near, hn, hx2⟩ := h
        have b := ab_bd hw hk hn
        have b2 := ab_bd hw (k := near.toNat) (by omega) hx2
        obtain ⟨y, hy, z⟩ := ih near hn (by omega)
        have by' := ab_bd hw hk ((mem_bare hw hk y).mp hy).1
        refine ⟨y, hy, .inr ?_⟩
        rcases z with rfl | z
        · exact hx2
        · exact ab_trans hw y.toNat (by omega) x near z hx2
      · exact absurd ((mem_bare hw hk x).mpr ⟨hx, h⟩) hb
theorem ab_bare : ab (bare w) = ab w := by
  have hb := web_bare hw
  have hl := bare_len w
  refine web_ext (by rw [ab_len, ab_len, hl]) fun k => ?_
  rw [ab_len, hl]
  induction k using Nat.strongRecOn with
  | ind k ih =>
    intro hk
    refine asc_ext _ _ (ab_row hb k (by omega)).lt (ab_row hw k hk).lt fun x => ?_
    rw [mem_ab hb (by omega)]
    constructor
    · rintro (h | ⟨near, hn, h⟩)
      · exact ((mem_bare hw hk x).mp h).1
      · have hn' := ((mem_bare hw hk near).mp hn).1
        have b := ab_bd hw hk hn'
        rw [ih near.toNat (by omega) (by omega)] at h
        exact ab_trans hw k hk x near hn' h
    · intro h
      obtain ⟨y, hy, z⟩ := bare_top hw hk (k - x.toNat) x h (Nat.le_refl _)
      have b := ab_bd hw hk ((mem_bare hw hk y).mp hy).1
      rcases z with rfl | z
      · exact .inl hy
      · exact .inr ⟨y, hy, by rw [ih y.toNat (by omega) (by omega)]; exact z⟩
theorem bare_bare : bare (bare w) = bare w := by
  unfold bare
  rw [show ab ((ab w).map (bareRow (ab w))) = ab w from ab_bare hw]
/-- the law's own bare web -/
def lbareRow (w : List (List Int)) (k : Nat) : List Int := (rw' w k).filter fun near => decide (((rw' w k).filter fun mid => decide (near ∈ rw' (ab w) mid.toNat)) = [])
theorem lbare_eq {k : Nat} (hk : k < w.length) : lbareRow w k = rw' (bare w) k := by
  refine asc_ext _ _ ((hw.rowOk hk).filter _).lt ((web_bare hw).rowOk (by rw [bare_len]; exact hk)).lt fun x => ?_
  rw [mem_bare hw hk]
  unfold lbareRow
  rw [List.mem_filter, decide_eq_true_iff, List.filter_eq_nil_iff]
  constructor
  · rintro ⟨h1, h2⟩
    refine ⟨sub_ab hw hk h1, ?_⟩
    rintro ⟨near, hn, h⟩
    rcases (mem_ab hw hk near).mp hn with z | ⟨m, hm, z⟩
    · exact h2 near z (decide_eq_true h)
    · have b := (hw.rowOk hk).bd m hm
      exact h2 m hm (decide_eq_true (ab_trans hw m.toNat (by omega) x near z h))
  · rintro ⟨h1, h2⟩
    refine ⟨?_, fun mid hm h => h2 ⟨mid, sub_ab hw hk hm, of_decide_eq_true h⟩⟩
    rcases (mem_ab hw hk x).mp h1 with z | ⟨m, hm, z⟩
    · exact z
    · exact absurd ⟨m, sub_ab hw hk hm, z⟩ h2
theorem lbare_all : (List.range w.length).map (lbareRow w) = bare w := by
  refine web_ext (by rw [List.length_map, List.length_range, bare_len]) fun k hk => ?_
  rw [List.length_map, List.length_range] at hk
  rw [← lbare_eq hw hk]
  apply rw_some
  rw [List.getElem?_map, List.getElem?_range hk]
  rfl
end
/-! ### tighter -/
theorem tighter_iff {w v : List (List Int)} (hl : w.length = v.length) : tighter w v = true ↔ ∀ k, k < w.length → ∀ x ∈ rw' v k, x ∈ rw' w k := by
  unfold tighter
  rw [List.all_eq_true]
  constructor
  · intro h k hk x hx
    have hm : (rw' w k, rw' v k) ∈ w.zip v := by
      have : (w.zip v)[k]? = some (rw' w k, rw' v k) := by
        rw [List.getElem?_zip_eq_some]
        exact ⟨get_some hk, get_some (by omega)⟩
      exact List.mem_of_getElem? this
    have := List.all_eq_true.mp (h _ hm) x hx
    exact of_decide_eq_true this
  · intro h p hp
    obtain ⟨k, hk⟩ := List.getElem?_of_mem hp
    have := List.getElem?_zip_eq_some.mp hk
    have hkl : k < w.length := by
      by_cases q : k < w.length
      · exact q
      · rw [List.getElem?_eq_none (by omega)] at this; cases this.1
    rw [List.all_eq_true]
    intro x hx
    have e1 := rw_some this.1
    have e2 := rw_some this.2
    rw [← e1]
    rw [← e2] at hx
    exact decide_eq_true (h k hkl x hx)
theorem tighter_self (w : List (List Int)) : tighter w w = true := (tighter_iff rfl).mpr fun _ _ _ h => h

/-! ### less -/
section
variable {b v : List (List Int)} (hb : Web b) (hv : Web v) (hl : v.length = b.length) (hs : ∀ k, k < b.length → ∀ x ∈ rw' v k, x ∈ rw' b k)
include hb hv hl hs
theorem ab_mono : ∀ k, k < b.length → ∀ x ∈ rw' (ab v) k, x ∈ rw' (ab b) k := by
  intro k
  induction k using Nat.strongRecOn with
  | ind k ih =>
    intro hk x hx
    rcases (mem_ab hv (by omega) x).mp hx with h | ⟨near, hn, h⟩
    · exact sub_ab hb hk (hs k hk x h)
    · have h' := hs k hk near hn
      have bd := (hb.rowOk hk).bd near h'
      exact (mem_ab hb hk x).mpr (.inr ⟨near, h', ih near.toNat (by omega) (by omega) x h⟩)
theorem less_bare (hbb : bare b = b) : bare v = v := by
  refine web_ext (bare_len v) fun k => ?_
  rw [bare_len]
  intro hk
  refine asc_ext _ _ ((web_bare hv).rowOk (by rw [bare_len]; exact hk)).lt (hv.rowOk hk).lt fun x => ?_
  rw [mem_bare hv hk]
  constructor
  · rintro ⟨h1, h2⟩
    rcases (mem_ab hv hk x).mp h1 with z | ⟨m, hm, z⟩
    · exact z
    · exact absurd ⟨m, sub_ab hv hk hm, z⟩ h2
  · intro h
    refine ⟨sub_ab hv hk h, ?_⟩
    rintro ⟨near, hn, z⟩
    have h' := hs k (by omega) x h
    rw [← hbb] at h'
    have bd := ab_bd hv hk hn
    exact ((mem_bare hb (by omega) x).mp h').2 ⟨near, ab_mono hb hv hl hs k (by omega) near hn, ab_mono hb hv hl hs near.toNat (by omega) x z⟩
theorem less_join : join2 v b = b := by
  have hlen : (join2 v b).length = b.length := by unfold join2; rw [List.length_map, List.length_zip]; omega
  refine web_ext hlen fun k hk => ?_
  rw [hlen] at hk
  have : (join2 v b)[k]? = some (sset (rw' v k ++ rw' b k)) := by
    unfold join2
    rw [List.getElem?_map]
    have : (v.zip b)[k]? = some (rw' v k, rw' b k) := by
      rw [List.getElem?_zip_eq_some]
      exact ⟨get_some (by omega), get_some hk⟩
    rw [this]
    rfl
  rw [rw_some this]
  refine asc_ext _ _ (sset_lt _) (hb.rowOk hk).lt fun x => ?_
  rw [sset_mem, List.mem_append]
  exact ⟨fun h => h.elim (hs k hk x) id, .inr⟩
theorem less_lacks (hbb : bare b = b) {k : Nat} (hk : k < b.length) {f : Int} {t : List Int} (hf : rw' b k = f :: t) (ht : rw' v k = t) : f ∈ rw' (ab b) k ∧ ¬ f ∈ rw' (ab v) k := by
  have hm : f ∈ rw' b k := by rw [hf]; exact List.mem_cons_self
  refine ⟨sub_ab hb hk hm, fun h => ?_⟩
  rcases (mem_ab hv (by omega) f).mp h with z | ⟨near, hn, z⟩
  · have := (hb.rowOk hk).lt
    rw [hf] at this
    rw [ht] at z
    have := (List.pairwise_cons.mp this).1 f z
    omega
  · have hn' := hs k hk near hn
    have bd := (hb.rowOk hk).bd near hn'
    have hm' := hm
    rw [← hbb] at hm'
    exact ((mem_bare hb hk f).mp hm').2 ⟨near, sub_ab hb hk hn', ab_mono hb hv hl hs near.toNat (by omega) f z⟩
end
/-- a web with row k cut -/
def lessW (b : List (List Int)) (k : Nat) : List (List Int) := b.take k ++ [(rw' b k).drop 1] ++ b.drop (k + 1)
theorem less_len {b : List (List Int)} {k : Nat} (hk : k < b.length) : (lessW b k).length = b.length := by
  unfold lessW
  rw [List.length_append, List.length_append, List.length_take, List.length_drop, List.length_singleton]
  omega
theorem less_get {b : List (List Int)} {k : Nat} (hk : k < b.length) (j : Nat) : rw' (lessW b k) j = if j = k then (rw' b k).drop 1 else rw' b j := by
  have e : lessW b k = b.set k ((rw' b k).drop 1) := by
    unfold lessW
    rw [List.set_eq_take_append_cons_drop, if_pos hk, List.append_assoc]
    rfl
  unfold rw'
  rw [e, List.getD_eq_getElem?_getD, List.getD_eq_getElem?_getD, List.getElem?_set]
  by_cases hj : j = k
  · subst hj
    rw [if_pos rfl, if_pos rfl, if_pos hk]
    rfl
  · rw [if_neg (fun z => hj z.symm), if_neg hj, List.getD_eq_getElem?_getD]
theorem less_web {b : List (List Int)} (hb : Web b) {k : Nat} (hk : k < b.length) : Web (lessW b k) := by
  refine ⟨by rw [less_len hk]; exact hb.len, fun j r h => ?_⟩
  have hj : j < b.length := by
    by_cases q : j < b.length
    · exact q
    · rw [List.getElem?_eq_none (by rw [less_len hk]; omega)] at h; cases h
  have e := rw_some h
  rw [less_get hk] at e
  by_cases q : j = k
  · subst q
    rw [if_pos rfl] at e
    subst e
    have := hb.rowOk hk
    exact ⟨this.lt.sublist (List.drop_sublist _ _), fun a ha => this.bd a (List.mem_of_mem_drop ha)⟩
  · rw [if_neg q] at e
    subst e
    exact hb.rowOk hj
theorem less_sub {b : List (List Int)} {k : Nat} (hk : k < b.length) : ∀ j, j < b.length → ∀ x ∈ rw' (lessW b k) j, x ∈ rw' b j := by
  intro j hj x hx
  rw [less_get hk] at hx
  by_cases q : j = k
  · subst q
    rw [if_pos rfl] at hx
    exact List.mem_of_mem_drop hx
  · rw [if_neg q] at hx
    exact hx
end W02
end

section
/-! k01: plain mathematics of webs (2): pairs, the turned web, parts. -/
namespace W02
open PD WM

def lt2 (p q : Int × Int) : Prop := p.1 < q.1 ∨ (p.1 = q.1 ∧ p.2 < q.2)
def lprsRow (w : List (List Int)) (near : Nat) : List (Int × Int) := ((List.range w.length).filter fun deed => decide ((near : Int) ∈ rw' w deed)).map fun (deed : Nat) => ((near : Int), (deed : Int))
def lprs (w : List (List Int)) : List (Int × Int) := (List.range w.length).flatMap (lprsRow w)
theorem lprs_lt (w : List (List Int)) : (lprs w).Pairwise lt2 := by
  unfold lprs
  rw [List.pairwise_flatMap]
  constructor
  · intro near _
    unfold lprsRow
    rw [List.pairwise_map]
    refine (List.pairwise_lt_range.filter _).imp fun {a b} h => .inr ⟨rfl, ?_⟩
    show (a : Int) < (b : Int)
    omega
  · refine List.pairwise_lt_range.imp fun {a b} h x hx y hy => ?_
    unfold lprsRow at hx hy
    obtain ⟨_, _, rfl⟩ := List.mem_map.mp hx
    obtain ⟨_, _, rfl⟩ := List.mem_map.mp hy
    exact .inl (by show (a : Int) < (b : Int); omega)
theorem lprs_mem {w : List (List Int)} (hw : Web w) (p : Int × Int) : p ∈ lprs w ↔ ∃ deed : Nat, deed < w.length ∧ p.2 = (deed : Int) ∧ p.1 ∈ rw' w deed := by
  unfold lprs lprsRow
  rw [List.mem_flatMap]
  constructor
  · rintro ⟨near, _, h⟩
    obtain ⟨deed, hd, rfl⟩ := List.mem_map.mp h
    have := List.mem_filter.mp hd
    exact ⟨deed, List.mem_range.mp this.1, rfl, of_decide_eq_true this.2⟩
  · rintro ⟨deed, hd, e, h⟩
    have b := (hw.rowOk hd).bd p.1 h
    have ep : ((p.1.toNat : Nat) : Int) = p.1 := by omega
    refine ⟨p.1.toNat, List.mem_range.mpr (by omega), List.mem_map.mpr ⟨deed, List.mem_filter.mpr ⟨List.mem_range.mpr hd, decide_eq_true (by rw [ep]; exact h)⟩, Prod.ext ep e.symm⟩⟩
theorem prsIn_nodup {w : List (List Int)} (hw : Web w) : (prsIn w).Nodup := by
  unfold prsIn
  unfold List.Nodup
  rw [List.pairwise_flatMap]
  constructor
  · intro deed hd
    rw [List.pairwise_map]
    refine ((hw.rowOk (List.mem_range.mp hd)).lt).imp fun {a b} h e => ?_
    have := congrArg Prod.fst e
    simp only at this
    omega
  · refine List.pairwise_lt_range.imp fun {a b} h x hx y hy e => ?_
    obtain ⟨_, _, rfl⟩ := List.mem_map.mp hx
    obtain ⟨_, _, rfl⟩ := List.mem_map.mp hy
    have := congrArg Prod.snd e
    simp only at this
    omega
theorem lprs_eq {w : List (List Int)} (hw : Web w) : prs w = lprs w := by
  unfold prs
  refine sort2_eq ?_ ((lprs_lt w).imp fun {p q} h => ?_)
  · refine (List.perm_ext_iff_of_nodup (prsIn_nodup hw) ((lprs_lt w).imp fun {p q} h e => ?_)).mpr fun p => ?_
    · subst e
      rcases h with z | ⟨_, z⟩ <;> omega
    · rw [lprs_mem hw, ← prs_mem hw]
      unfold prs
      rw [List.mem_mergeSort]
  · unfold le2
    simp only [Bool.or_eq_true, Bool.and_eq_true, decide_eq_true_eq]
    rcases h with z | ⟨z1, z2⟩
    · exact .inl z
    · exact .inr ⟨z1, by omega⟩
theorem webOf_len (n : Nat) (ps : List (Int × Int)) : (webOf n ps).length = n := by unfold webOf; rw [List.length_map, List.length_range]
theorem webOf_get {n : Nat} {ps : List (Int × Int)} {j : Nat} (h : j < n) : rw' (webOf n ps) j = sset (ofRow ps j) := by
  apply rw_some
  unfold webOf
  rw [List.getElem?_map, List.getElem?_range h]
  rfl
theorem ofRow_mem (ps : List (Int × Int)) (j : Nat) (x : Int) : x ∈ ofRow ps j ↔ (x, (j : Int)) ∈ ps := by
  unfold ofRow
  rw [List.mem_map]
  constructor
  · rintro ⟨p, hp, rfl⟩
    have := List.mem_filter.mp hp
    have e := of_decide_eq_true this.2
    rw [← e]
    exact this.1
  · intro h
    exact ⟨_, List.mem_filter.mpr ⟨h, decide_eq_true rfl⟩, rfl⟩
theorem webOf_eq {w : List (List Int)} (hw : Web w) {ps : List (Int × Int)} (hm : ∀ p, p ∈ ps ↔ p ∈ prs w) : webOf w.length ps = w := by
  refine web_ext (webOf_len _ _) fun k hk => ?_
  rw [webOf_len] at hk
  rw [webOf_get hk]
  refine asc_ext _ _ (sset_lt _) (hw.rowOk hk).lt fun x => ?_
  rw [sset_mem, ofRow_mem, hm, prs_mem hw]
  constructor
  · rintro ⟨deed, _, e, h⟩
    have : deed = k := by simp only at e; omega
    subst this
    exact h
  · intro h
    exact ⟨k, hk, rfl, h⟩
/-- the law's own turned web -/
def lbackRow (w : List (List Int)) (j : Nat) : List Int := ((List.range w.length).filter fun (k : Nat) => decide (((w.length : Int) - 1 - (j : Int)) ∈ rw' w ((w.length : Int) - 1 - (k : Int)).toNat)).map fun (k : Nat) => (w.length : Int) - 1 - ((w.length : Int) - 1 - (k : Int))
theorem lback_eq {w : List (List Int)} (hw : Web w) : webOf w.length (turnP w.length (prs w)) = (List.range w.length).map (lbackRow w) := by
  refine web_ext (by rw [webOf_len, List.length_map, List.length_range]) fun j hj => ?_
  rw [webOf_len] at hj
  rw [webOf_get hj]
  have e : rw' ((List.range w.length).map (lbackRow w)) j = lbackRow w j := by
    apply rw_some
    rw [List.getElem?_map, List.getElem?_range hj]
    rfl
  rw [e]
  refine asc_ext _ _ (sset_lt _) ?_ fun x => ?_
  · unfold lbackRow
    rw [List.pairwise_map]
    refine (List.pairwise_lt_range.filter _).imp fun {a b} h => ?_
    omega
  · rw [sset_mem, ofRow_mem]
    unfold turnP lbackRow
    rw [List.mem_map, List.mem_map]
    constructor
    · rintro ⟨q, hq, e⟩
      obtain ⟨deed, hd, e2, h⟩ := (prs_mem hw q).mp hq
      have e3 := congrArg Prod.fst e
      have e4 := congrArg Prod.snd e
      simp only at e3 e4
      refine ⟨w.length - 1 - deed, List.mem_filter.mpr ⟨List.mem_range.mpr (by omega), decide_eq_true ?_⟩, by omega⟩
      have h1 : (w.length : Int) - 1 - (j : Int) = q.1 := by omega
      have h2 : ((w.length : Int) - 1 - ((w.length - 1 - deed : Nat) : Int)).toNat = deed := by omega
      rw [h1, h2]
      exact h
    · rintro ⟨k, hk, rfl⟩
      have hk' := List.mem_filter.mp hk
      have hkl := List.mem_range.mp hk'.1
      have hm := of_decide_eq_true hk'.2
      refine ⟨((w.length : Int) - 1 - (j : Int), (w.length : Int) - 1 - (k : Int)), (prs_mem hw _).mpr ⟨((w.length : Int) - 1 - (k : Int)).toNat, by omega, by show (w.length : Int) - 1 - (k : Int) = _; omega, hm⟩, ?_⟩
      refine Prod.ext rfl ?_
      show (w.length : Int) - 1 - ((w.length : Int) - 1 - (j : Int)) = _
      omega

/-! ### parts -/
theorem ab_closed {w : List (List Int)} (hw : Web w) (hc : ∀ k, k < w.length → ∀ near ∈ rw' w k, ∀ x ∈ rw' w near.toNat, x ∈ rw' w k) : ab w = w := by
  refine web_ext (ab_len w) fun k => ?_
  rw [ab_len]
  induction k using Nat.strongRecOn with
  | ind k ih =>
    intro hk
    refine asc_ext _ _ (ab_row hw k hk).lt (hw.rowOk hk).lt fun x => ?_
    rw [mem_ab hw hk]
    constructor
    · rintro (h | ⟨near, hn, h⟩)
      · exact h
      · have b := (hw.rowOk hk).bd near hn
        rw [ih near.toNat (by omega) (by omega)] at h
        exact hc k hk near hn x h
    · exact .inl
theorem idx_inj {ds : List Int} {a b : Int} (ha : a ∈ ds) (hb : b ∈ ds) (h : ds.idxOf a = ds.idxOf b) : a = b := by
  have e1 := List.getElem_idxOf (idx_len ha)
  have e2 := List.getElem_idxOf (idx_len hb)
  rw [← e1, ← e2]
  congr 1
def cutRow (w : List (List Int)) (ds : List Int) (d : Int) : List Int := ds.filter fun near => decide (near ∈ rw' (ab w) d.toNat)
def lpartRow (w : List (List Int)) (ds : List Int) (row : List Int) : List Int := (row.filter fun near => decide ((row.filter fun mid => decide (near ∈ rw' (ab w) mid.toNat)) = [])).map fun a => ((ds.idxOf a : Nat) : Int)
section
variable {w : List (List Int)} {ds : List Int} (hw : Web w) (hp : ds.Pairwise (· < ·)) (hb : ∀ d ∈ ds, 0 ≤ d ∧ d < w.length)
include hw hp hb
theorem cut_eq {d : Int} (hd : d ∈ ds) : (rw' (ab w) d.toNat).filter (fun a => decide (a ∈ ds)) = cutRow w ds d := by
  have b := hb d hd
  refine asc_ext _ _ ((ab_row hw d.toNat (by omega)).lt.filter _) (hp.filter _) fun x => ?_
  unfold cutRow
  rw [List.mem_filter, List.mem_filter, decide_eq_true_iff, decide_eq_true_iff]
  exact And.comm
theorem partRow_eq {d : Int} (hd : d ∈ ds) : partRow w ds d = (cutRow w ds d).map fun a => ((ds.idxOf a : Nat) : Int) := by
  unfold partRow
  rw [cut_eq hw hp hb hd]
theorem part_get {d : Int} (hd : d ∈ ds) : rw' (partW w ds) (ds.idxOf d) = partRow w ds d := by
  apply rw_some
  unfold partW
  rw [List.getElem?_map, List.getElem?_eq_getElem (idx_len hd), List.getElem_idxOf]
  rfl
theorem mem_part {d : Int} (hd : d ∈ ds) (x : Int) : x ∈ partRow w ds d ↔ ∃ a ∈ ds, a ∈ rw' (ab w) d.toNat ∧ x = ((ds.idxOf a : Nat) : Int) := by
  rw [partRow_eq hw hp hb hd, List.mem_map]
  unfold cutRow
  constructor
  · rintro ⟨a, ha, rfl⟩
    have := List.mem_filter.mp ha
    exact ⟨a, this.1, of_decide_eq_true this.2, rfl⟩
  · rintro ⟨a, h1, h2, rfl⟩
    exact ⟨a, List.mem_filter.mpr ⟨h1, decide_eq_true h2⟩, rfl⟩
theorem part_closed : ab (partW w ds) = partW w ds := by
  refine ab_closed (web_part hw hp hb) fun k hk near hn x hx => ?_
  have hkl : k < ds.length := by unfold partW at hk; rwa [List.length_map] at hk
  have nd : ds.Nodup := hp.imp fun q => by omega
  have hdm : ds[k] ∈ ds := List.getElem_mem hkl
  have ek := List.Nodup.idxOf_getElem nd k hkl
  have hg := part_get hw hp hb hdm
  rw [ek] at hg
  rw [hg] at hn ⊢
  obtain ⟨b, hbm, hba, rfl⟩ := (mem_part hw hp hb hdm near).mp hn
  rw [show (((ds.idxOf b : Nat) : Int)).toNat = ds.idxOf b from rfl, part_get hw hp hb hbm] at hx
  obtain ⟨c, hcm, hca, rfl⟩ := (mem_part hw hp hb hbm x).mp hx
  have bd := hb _ hdm
  exact (mem_part hw hp hb hdm _).mpr ⟨c, hcm, ab_trans hw _ (by omega) c b hba hca, rfl⟩
theorem part_bare : bare (partW w ds) = ds.map fun d => lpartRow w ds (cutRow w ds d) := by
  unfold bare
  rw [part_closed hw hp hb]
  show (ds.map (partRow w ds)).map _ = _
  rw [List.map_map]
  refine List.map_congr_left fun d hd => ?_
  show bareRow (partW w ds) (partRow w ds d) = _
  unfold bareRow lpartRow
  conv => lhs; rw [partRow_eq hw hp hb hd]
  rw [List.filter_map]
  congr 1
  refine List.filter_congr fun b hbm => ?_
  have hbm' := List.mem_filter.mp hbm
  show (!decide (((ds.idxOf b : Nat) : Int) ∈ further (partW w ds) ((cutRow w ds d).map fun a => ((ds.idxOf a : Nat) : Int)))) = _
  rw [Bool.eq_iff_iff]
  simp only [Bool.not_eq_true', decide_eq_false_iff_not, decide_eq_true_eq]
  rw [List.filter_eq_nil_iff]
  unfold further
  rw [sset_mem]
  unfold furIn
  rw [List.mem_flatMap]
  constructor
  · intro h mid hm hx
    have hm' := List.mem_filter.mp hm
    refine h ⟨((ds.idxOf mid : Nat) : Int), List.mem_map.mpr ⟨mid, hm, rfl⟩, ?_⟩
    rw [show (((ds.idxOf mid : Nat) : Int)).toNat = ds.idxOf mid from rfl, part_get hw hp hb hm'.1]
    exact (mem_part hw hp hb hm'.1 _).mpr ⟨b, hbm'.1, of_decide_eq_true hx, rfl⟩
  · rintro h ⟨near, hn, hx⟩
    obtain ⟨mid, hm, rfl⟩ := List.mem_map.mp hn
    have hm' := List.mem_filter.mp hm
    rw [show (((ds.idxOf mid : Nat) : Int)).toNat = ds.idxOf mid from rfl, part_get hw hp hb hm'.1] at hx
    obtain ⟨a, ha, haa, e⟩ := (mem_part hw hp hb hm'.1 _).mp hx
    have : b = a := idx_inj hbm'.1 ha (by omega)
    subst this
    exact h mid hm (decide_eq_true haa)
end
end W02
end

section
/-! k01: helpers for the law's own body. -/
namespace W02
open PySem L2 PD WM

section
variable {C : CallT} {env env1 env2 env3 : PD.Env} {v i : Nat} {e e1 e2 elt c : IE} {o o1 o2 : O} {α : Type}
theorem set_none (hv : env[v]? = some none) : env.set v none = env := by
  apply List.ext_getElem?
  intro j
  rw [List.getElem?_set]
  by_cases h : v = j
  · subst h
    rw [if_pos rfl, hv]
    have : v < env.length := by
      by_cases q : v < env.length
      · exact q
      · rw [List.getElem?_eq_none (by omega)] at hv; cases hv
    rw [if_pos this]
  · rw [if_neg h]
theorem wipe1 (hv : env[v]? = some none) : wipe env [v] = env := set_none hv
theorem wipe1s (hv : env[v]? = some none) (o : Option O) : wipe (env.set v o) [v] = env := by
  show (env.set v o).set v none = env
  rw [List.set_set]
  exact set_none hv
theorem back1 (hv : env[v]? = some none) : back env env [v] = env := by
  show env.set v (env[v]?).join = env
  rw [hv]
  exact set_none hv
theorem look_set (hv : env[v]? = some none) (o : O) : look (env.set v (some o)) v = some o := by
  unfold look
  rw [List.getElem?_set]
  have : v < env.length := by
    by_cases q : v < env.length
    · exact q
    · rw [List.getElem?_eq_none (by omega)] at hv; cases hv
  rw [if_pos rfl, if_pos this]
  rfl
/-- comprehensions over things -/
theorem cF {src : Src} {xs : List α} {emb : α → D} {f : α → O} {p : α → Bool} (hs : semS C src env = some (((xs.map fun a => Item.one (emb a)), none), env)) (hc : ∀ a ∈ xs, ET C c (env.set v (some (.d (emb a)))) (p a)) (he : ∀ a ∈ xs, p a = true → EV C elt (env.set v (some (.d (emb a)))) (f a) (env.set v (some (.d (emb a))))) (hl : xs.length ≤ 100000) (hv : env[v]? = some none := by rfl) : EV C (.comp elt (.name v) src (some c) [v]) env (.lst ((xs.filter p).map f)) env := by
  have := ev_compM (C := C) (env := env) (elt := elt) (tg := .name v) (src := src) (cond := some c) (vs := [v]) (xs := xs) (emb := fun a => Item.one (emb a)) (w := none) (g := fun a => if p a = true then [f a] else []) hs rfl (fun a ha => by
    rw [wipe1 hv]
    exact turn_if rfl (hc a ha) (he a ha) (wipe1s hv _) (by show [v].contains v = true; simp)) (by
    rw [flatMap_if, List.length_map]
    exact small_size (Nat.le_trans (List.length_filter_le ..) hl)) (by rw [wipe1 hv, back1 hv])
  rw [flatMap_if] at this
  exact this
theorem cA {src : Src} {xs : List α} {emb : α → D} {f : α → O} (hs : semS C src env = some (((xs.map fun a => Item.one (emb a)), none), env)) (he : ∀ a ∈ xs, EV C elt (env.set v (some (.d (emb a)))) (f a) (env.set v (some (.d (emb a))))) (hl : xs.length ≤ 100000) (hv : env[v]? = some none := by rfl) : EV C (.comp elt (.name v) src none [v]) env (.lst (xs.map f)) env := by
  have := ev_compM (C := C) (env := env) (elt := elt) (tg := .name v) (src := src) (cond := none) (vs := [v]) (xs := xs) (emb := fun a => Item.one (emb a)) (w := none) (g := fun a => [f a]) hs rfl (fun a ha => by
    rw [wipe1 hv]
    exact turn_all rfl (he a ha) (wipe1s hv _) (by show [v].contains v = true; simp)) (by
    rw [flatMap_one, List.length_map]
    exact small_size hl) (by rw [wipe1 hv, back1 hv])
  rw [flatMap_one] at this
  exact this
theorem tupOf {ys : List α} {g : α → D} (h : EV C e env (.lst (ys.map fun a => .d (g a))) env) (hp : (sem C e).p = toP (sem C e).v := by rfl) : EV C (.fn .tuple [e]) env (.d (.tuple (ys.map g))) env := by
  refine ev_fn1 (ep_of h hp) ?_
  rw [toD_map]
  exact tuple_map
theorem tupOwn {ys : List α} {g : α → D} (h : look env i = some (.lst (ys.map fun a => .d (g a)))) : EV C (.fn .tuple [.var i]) env (.d (.tuple (ys.map g))) env := by
  refine ev_fn1 (ep_own h (by rw [datas_map]; rfl)) ?_
  show (match asList (O.lst (ys.map fun a => .d (g a))) with
    | some xs => some (O.d (.tuple xs))
    | none => _) = _
  rw [asList_map]
theorem listOwn {ys : List α} {g : α → D} (h : look env i = some (.lst (ys.map fun a => .d (g a)))) : EV C (.fn .list [.var i]) env (.lst (ys.map fun a => .d (g a))) env := by
  refine ev_fn1 (ep_own h (by rw [datas_map]; rfl)) ?_
  show (match asSeq (O.lst (ys.map fun a => .d (g a))) with
    | some xs => some (mkL xs)
    | none => _) = _
  rw [asSeq_map]
  show some (O.lst ((ys.map g).map .d)) = _
  rw [List.map_map]
  rfl
/-- tests whose walk changes slots -/
theorem xs_ifG {bor : List Bool} {s1 ss : List IS} {out : Option Out} (hc : (sem C c).t env = some (false, env1)) (h : exs C bor ss env1 = out) : exs C bor (.ifs c s1 [] :: ss) env = out := by
  (conv => lhs; unfold exs)
  unfold ex evT
  rw [hc]
  simp only
  rw [xs_nil]
  exact h
theorem not_same (h : EV C (.call i [e1, e2]) env (oB true) env1) : (sem C (.not (.call i [e1, e2]))).t env = some (false, env1) := by
  show tNotM (toT (sem C (.call i [e1, e2])).v) env = _
  unfold tNotM toT
  rw [h]
  rfl
theorem pv_of (h : EV C e env o env1) (hp : (sem C e).p = toP (sem C e).v := by rfl) : (sem C e).p env = some (.val o.toD, env1) := by
  rw [hp]
  unfold toP
  rw [h]
theorem pv_slot {x : D} (h : look env i = some (.d x)) : (sem C (.var i)).p env = some (.slot i, env) := by
  show pVar i env = _
  unfold pVar
  rw [h]
theorem pv_own {os : List O} (h : look env i = some (.lst os)) (hd : (datas os).isSome = true) : (sem C (.var i)).p env = some (.slot i, env) := by
  show pVar i env = _
  unfold pVar
  rw [h]
  simp only [hd, if_true]
theorem pv_nest {os : List O} (h : look env i = some (.lst os)) (hd : datas os = none) : (sem C (.var i)).p env = some (.val (O.toD (.lst os)), env.set i (some (.d (O.toD (.lst os))))) := by
  show pVar i env = _
  unfold pVar
  rw [h]
  simp only [hd]
  rfl
theorem ps2 {p1 p2 : Opnd} (h1 : (sem C e1).p env = some (p1, env1)) (h2 : (sem C e2).p env1 = some (p2, env2)) : semPs C [e1, e2] env = some ([p1, p2], env2) := by
  show mCons (sem C e1).p (mCons (sem C e2).p mNil) env = _
  unfold mCons
  rw [h1]
  simp only [h2]
  rfl
theorem rs2 {p1 p2 : Opnd} (h1 : res env p1 = some o1) (h2 : res env p2 = some o2) : ress env [p1, p2] = some [o1, o2] := by
  unfold ress
  rw [h1]
  unfold ress
  rw [h2]
  rfl
end
theorem ev_same {n k : Nat} {e1 e2 : IE} {env env1 env2 : PD.Env} {p1 p2 : Opnd} {x : D} (h1 : (sem (callF tab (n + 20)) e1).p env = some (p1, env1)) (h2 : (sem (callF tab (n + 20)) e2).p env1 = some (p2, env2)) (r1 : res env2 p1 = some (.d x)) (r2 : res env2 p2 = some (.d x)) (hx : Okd k x) (hk : k ≤ 20) : EV (callF tab (n + 20)) (.call 29 [e1, e2]) env (oB true) env2 := by
  obtain ⟨fin, h3, h4⟩ := (s_same_refl k x hx).le hk n
  refine ev_callL (ps2 h1 h2) (rs2 r1 r2) ?_ h3 h4 ?_
  · rw [lent_none _ _ rfl]
    rfl
  · exact give_none _ _ _ _ rfl
theorem toDs_cons (o : O) (os : List O) : O.toDs (o :: os) = o.toD :: O.toDs os := by (conv => lhs; unfold O.toDs)
theorem toDs_nil : O.toDs [] = [] := by unfold O.toDs; rfl
theorem toD_dd (x : D) : (O.d x).toD = x := by unfold O.toD; rfl
theorem toD_lst (os : List O) : (O.lst os).toD = .list (O.toDs os) := by (conv => lhs; unfold O.toD)
/-! ### data that may be compared -/
theorem Okd.up {k : Nat} {x : D} (h : Okd k x) : ∀ {j : Nat}, k ≤ j → Okd j x := by
  induction h with
  | non k => intro j hj; obtain ⟨m, rfl⟩ := Nat.le.dest hj; rw [show k + 1 + m = k + m + 1 from by omega]; exact .non _
  | bool k b => intro j hj; obtain ⟨m, rfl⟩ := Nat.le.dest hj; rw [show k + 1 + m = k + m + 1 from by omega]; exact .bool _ b
  | int k i => intro j hj; obtain ⟨m, rfl⟩ := Nat.le.dest hj; rw [show k + 1 + m = k + m + 1 from by omega]; exact .int _ i
  | @list k xs hl _ ih => intro j hj; obtain ⟨m, rfl⟩ := Nat.le.dest hj; rw [show k + 1 + m = k + m + 1 from by omega]; exact .list hl fun x hx => ih x hx (Nat.le_add_right k m)
  | @tuple k xs hl _ ih => intro j hj; obtain ⟨m, rfl⟩ := Nat.le.dest hj; rw [show k + 1 + m = k + m + 1 from by omega]; exact .tuple hl fun x hx => ih x hx (Nat.le_add_right k m)
theorem okd_T (xs : List Int) (h : xs.length ≤ 5000) : Okd 2 (dT xs) := .tuple (by rw [List.length_map]; exact h) fun x hx => by
  obtain ⟨i, _, rfl⟩ := List.mem_map.mp hx
  exact .int 0 i
theorem okd_Ws (w : List (List Int)) (hr : ∀ r ∈ w, r.length ≤ 5000) : ∀ x ∈ w.map dT, Okd 2 x := fun x hx => by
  obtain ⟨i, hi, rfl⟩ := List.mem_map.mp hx
  exact okd_T i (hr i hi)
theorem okd_W (w : List (List Int)) (h : w.length ≤ 5000) (hr : ∀ r ∈ w, r.length ≤ 5000) : Okd 3 (dW w) := .tuple (by rw [List.length_map]; exact h) (okd_Ws w hr)
theorem okd_LW (w : List (List Int)) (h : w.length ≤ 5000) (hr : ∀ r ∈ w, r.length ≤ 5000) : Okd 3 (.list (w.map dT)) := .list (by rw [List.length_map]; exact h) (okd_Ws w hr)
theorem okd_web {w : List (List Int)} (hw : Web w) : Okd 3 (dW w) := okd_W w (by have := hw.len; omega) fun r hr => by have := hw.mem hr; omega
theorem okd_lweb {w : List (List Int)} (hw : Web w) : Okd 3 (.list (w.map dT)) := okd_LW w (by have := hw.len; omega) fun r hr => by have := hw.mem hr; omega
theorem okd_P (ps : List (Int × Int)) (h : ps.length ≤ 5000) : Okd 3 (.list (ps.map pD)) := .list (by rw [List.length_map]; exact h) fun x hx => by
  obtain ⟨p, _, rfl⟩ := List.mem_map.mp hx
  exact .tuple (by simp) fun y hy => by
    simp only [List.mem_cons, List.not_mem_nil, or_false] at hy
    rcases hy with rfl | rfl <;> exact .int 0 _
theorem all_c {α : Type} {P : α → Prop} {a : α} {l : List α} (h : P a) (h2 : ∀ x ∈ l, P x) : ∀ x ∈ a :: l, P x := fun x hx => (List.mem_cons.mp hx).elim (fun z => z ▸ h) (h2 x)
theorem all_n {α : Type} {P : α → Prop} : ∀ x ∈ ([] : List α), P x := fun x hx => absurd hx List.not_mem_nil
end W02
end
end

section
set_option Elab.async false
set_option linter.all false
set_option maxRecDepth 100000
/-! k02: levels, heights: plain mathematics, what the functions answer. -/
namespace W02
open PySem L2 PD WM

def mx0 (ns : List Int) : Int := (maxI ns).getD 0
theorem mx0_spec (ns : List Int) : (∀ x ∈ ns, x ≤ mx0 ns) ∧ ((ns = [] ∧ mx0 ns = 0) ∨ mx0 ns ∈ ns) := by
  cases ns with
  | nil => exact ⟨fun x hx => absurd hx List.not_mem_nil, .inl ⟨rfl, rfl⟩⟩
  | cons x xs =>
    obtain ⟨a1, a2⟩ := maxI_spec (ns := x :: xs) (m := mx0 (x :: xs)) rfl
    exact ⟨a2, .inr a1⟩
theorem mx0_eq {ns : List Int} {m : Int} (h1 : ∀ x ∈ ns, x ≤ m) (h2 : (ns = [] ∧ m = 0) ∨ m ∈ ns) : mx0 ns = m := by
  obtain ⟨a1, a2⟩ := mx0_spec ns
  rcases h2 with ⟨rfl, rfl⟩ | h2
  · rfl
  · rcases a2 with ⟨rfl, _⟩ | a2
    · exact absurd h2 List.not_mem_nil
    · have := h1 _ a2
      have := a1 _ h2
      omega
theorem mx0_congr {ns ms : List Int} (h : ∀ x, x ∈ ns ↔ x ∈ ms) : mx0 ns = mx0 ms := by
  obtain ⟨a1, a2⟩ := mx0_spec ms
  refine mx0_eq (fun x hx => a1 x ((h x).mp hx)) ?_
  rcases a2 with ⟨rfl, e⟩ | a2
  · refine .inl ⟨?_, e⟩
    cases ns with
    | nil => rfl
    | cons x xs => exact absurd ((h x).mp List.mem_cons_self) List.not_mem_nil
  · exact .inr ((h _).mpr a2)
theorem maxI_cons {ns : List Int} {x : Int} : maxI (x :: ns) = some (mx0 (x :: ns)) := rfl
theorem maxI_snoc0 {ns : List Int} (h : ∀ x ∈ ns, 0 ≤ x) : maxI (ns ++ [0]) = some (mx0 ns) := by
  have e : maxI (ns ++ [0]) = some (mx0 (ns ++ [0])) := by
    cases ns with
    | nil => rfl
    | cons x xs => rfl
  rw [e]
  congr 1
  obtain ⟨a1, a2⟩ := mx0_spec ns
  refine mx0_eq (fun x hx => ?_) (.inr ?_)
  · rcases List.mem_append.mp hx with z | z
    · exact a1 x z
    · rw [List.mem_singleton.mp z]
      rcases a2 with ⟨rfl, e⟩ | a2
      · omega
      · exact h _ a2
  · rcases a2 with ⟨rfl, e⟩ | a2
    · rw [e]; simp
    · exact List.mem_append_left _ a2
/-- the number at a place -/
def at' (l : List Int) (k : Nat) : Int := l.getD k 0
theorem at_some {l : List Int} {k : Nat} (h : k < l.length) : l[k]? = some (at' l k) := by
  unfold at'
  rw [List.getD_eq_getElem?_getD, List.getElem?_eq_getElem h]
  rfl
theorem at_of {l : List Int} {k : Nat} {x : Int} (h : l[k]? = some x) : at' l k = x := by
  unfold at'
  rw [List.getD_eq_getElem?_getD, h]
  rfl
theorem int_ext {l m : List Int} (h : l.length = m.length) (hr : ∀ k, k < l.length → at' l k = at' m k) : l = m := by
  apply List.ext_getElem?
  intro i
  by_cases hi : i < l.length
  · rw [at_some hi, at_some (by omega), hr i hi]
  · rw [List.getElem?_eq_none (by omega), List.getElem?_eq_none (by omega)]
def levIn (found : List Int) (row : List Int) : Int := 1 + mx0 (row.map fun near => at' found near.toNat)
def lev (w : List (List Int)) : List Int := w.foldl (fun found row => found ++ [levIn found row]) []
theorem lev_snoc (w : List (List Int)) (r : List Int) : lev (w ++ [r]) = lev w ++ [levIn (lev w) r] := by
  unfold lev
  rw [List.foldl_append]
  rfl
theorem lev_len (w : List (List Int)) : (lev w).length = w.length := by
  have gen : ∀ (w : List (List Int)) (f : List Int), (w.foldl (fun found row => found ++ [levIn found row]) f).length = f.length + w.length := by
    intro w
    induction w with
    | nil => intro f; rfl
    | cons r w ih => intro f; rw [List.foldl_cons, ih]; simp; omega
  have := gen w []
  simpa [lev] using this
theorem lev_take (w : List (List Int)) (k : Nat) (r : List Int) (h : w[k]? = some r) : lev (w.take (k + 1)) = lev (w.take k) ++ [levIn (lev (w.take k)) r] := by
  rw [take_succ' h, lev_snoc]
theorem lev_pre (w : List (List Int)) : ∀ k, k ≤ w.length → lev (w.take k) = (lev w).take k := by
  have gen : ∀ (v w : List (List Int)), (lev (w ++ v)).take w.length = lev w := by
    intro v
    induction v with
    | nil =>
      intro w
      rw [List.append_nil, ← lev_len w, List.take_length]
    | cons r v ih =>
      intro w
      have h := ih (w ++ [r])
      rw [List.append_assoc, List.singleton_append, lev_snoc] at h
      have h2 := congrArg (List.take w.length) h
      rw [List.take_take, List.length_append, List.length_singleton, Nat.min_eq_left (Nat.le_succ _)] at h2
      rw [h2, List.take_append_of_le_length (by rw [lev_len]; exact Nat.le_refl _), ← lev_len w, List.take_length]
  intro k hk
  have h := gen (w.drop k) (w.take k)
  rw [List.take_append_drop, List.length_take, Nat.min_eq_left hk] at h
  exact h.symm
theorem at_take {l : List Int} {j k : Nat} (h : j < k) : at' (l.take k) j = at' l j := by
  unfold at'
  rw [List.getD_eq_getElem?_getD, List.getD_eq_getElem?_getD, List.getElem?_take, if_pos h]
section
variable {w : List (List Int)} (hw : Web w)
include hw
theorem lev_at {k : Nat} (hk : k < w.length) : at' (lev w) k = 1 + mx0 ((rw' w k).map fun near => at' (lev w) near.toNat) := by
  have e := lev_pre w (k + 1) hk
  have h1 : (lev w)[k]? = some (levIn (lev (w.take k)) (rw' w k)) := by
    have : ((lev w).take (k + 1))[k]? = (lev w)[k]? := by rw [List.getElem?_take]; simp
    rw [← this, ← e, lev_take w k _ (get_some hk)]
    rw [List.getElem?_append_right (by rw [lev_len, List.length_take]; omega), lev_len, List.length_take, Nat.min_eq_left (by omega), Nat.sub_self]
    rfl
  rw [at_of h1]
  unfold levIn
  congr 2
  refine List.map_congr_left fun near hn => ?_
  have b := (hw.rowOk hk).bd near hn
  rw [lev_pre w k (by omega), at_take (by omega)]
theorem lev_pos {k : Nat} (hk : k < w.length) : 1 ≤ at' (lev w) k := by
  induction k using Nat.strongRecOn with
  | ind k ih =>
    rw [lev_at hw hk]
    obtain ⟨_, a2⟩ := mx0_spec ((rw' w k).map fun near => at' (lev w) near.toNat)
    rcases a2 with ⟨_, e⟩ | a2
    · omega
    · obtain ⟨near, hn, e⟩ := List.mem_map.mp a2
      have b := (hw.rowOk hk).bd near hn
      have := ih near.toNat (by omega) (by omega)
      omega
theorem lev_lt {k : Nat} (hk : k < w.length) {near : Int} (hn : near ∈ rw' w k) : at' (lev w) near.toNat + 1 ≤ at' (lev w) k := by
  rw [lev_at hw hk]
  have := (mx0_spec ((rw' w k).map fun near => at' (lev w) near.toNat)).1 _ (List.mem_map.mpr ⟨near, hn, rfl⟩)
  omega
theorem lev_dn {k : Nat} (hk : k < w.length) (h : 1 < at' (lev w) k) : ∃ near ∈ rw' w k, at' (lev w) near.toNat + 1 = at' (lev w) k := by
  have e := lev_at hw hk
  obtain ⟨_, a2⟩ := mx0_spec ((rw' w k).map fun near => at' (lev w) near.toNat)
  rcases a2 with ⟨_, e2⟩ | a2
  · omega
  · obtain ⟨near, hn, e2⟩ := List.mem_map.mp a2
    exact ⟨near, hn, by omega⟩
/-! ### the turned web -/
end
def turnW (w : List (List Int)) : List (List Int) := (List.range w.length).map (lbackRow w)
theorem turn_len (w : List (List Int)) : (turnW w).length = w.length := by unfold turnW; rw [List.length_map, List.length_range]
theorem turn_get {w : List (List Int)} {j : Nat} (h : j < w.length) : rw' (turnW w) j = lbackRow w j := by
  apply rw_some
  unfold turnW
  rw [List.getElem?_map, List.getElem?_range h]
  rfl
theorem mem_turn {w : List (List Int)} {j : Nat} (hj : j < w.length) (x : Int) : x ∈ rw' (turnW w) j ↔ ∃ k : Nat, k < w.length ∧ x = (k : Int) ∧ ((w.length - 1 - j : Nat) : Int) ∈ rw' w (w.length - 1 - k) := by
  rw [turn_get hj]
  unfold lbackRow
  rw [List.mem_map]
  constructor
  · rintro ⟨k, hk, rfl⟩
    have hk' := List.mem_filter.mp hk
    have hkl := List.mem_range.mp hk'.1
    have hm := of_decide_eq_true hk'.2
    rw [show ((w.length : Int) - 1 - (k : Int)).toNat = w.length - 1 - k from by omega, show (w.length : Int) - 1 - (j : Int) = ((w.length - 1 - j : Nat) : Int) from by omega] at hm
    exact ⟨k, hkl, by omega, hm⟩
  · rintro ⟨k, hk, rfl, hm⟩
    refine ⟨k, List.mem_filter.mpr ⟨List.mem_range.mpr hk, decide_eq_true ?_⟩, by omega⟩
    rw [show ((w.length : Int) - 1 - (k : Int)).toNat = w.length - 1 - k from by omega, show (w.length : Int) - 1 - (j : Int) = ((w.length - 1 - j : Nat) : Int) from by omega]
    exact hm
theorem web_turn {w : List (List Int)} (hw : Web w) : Web (turnW w) := by
  refine ⟨by rw [turn_len]; exact hw.len, fun j r h => ?_⟩
  have hj : j < w.length := by
    by_cases q : j < w.length
    · exact q
    · rw [List.getElem?_eq_none (by rw [turn_len]; omega)] at h; cases h
  have e := rw_some h
  refine ⟨?_, fun a ha => ?_⟩
  · rw [← e, turn_get hj]
    unfold lbackRow
    rw [List.pairwise_map]
    exact (List.pairwise_lt_range.filter _).imp fun {a b} h => by omega
  · rw [← e] at ha
    obtain ⟨k, hk, rfl, hm⟩ := (mem_turn hj a).mp ha
    have := (hw.rowOk (k := w.length - 1 - k) (by omega)).bd _ hm
    omega
def hgt (w : List (List Int)) : List Int := (lev (turnW w)).reverse
theorem hgt_len (w : List (List Int)) : (hgt w).length = w.length := by unfold hgt; rw [List.length_reverse, lev_len, turn_len]
theorem hgt_at {w : List (List Int)} {k : Nat} (hk : k < w.length) : at' (hgt w) k = at' (lev (turnW w)) (w.length - 1 - k) := by
  apply at_of
  unfold hgt
  rw [List.getElem?_reverse (by rw [lev_len, turn_len]; exact hk), lev_len, turn_len]
  exact at_some (by rw [lev_len, turn_len]; omega)
section
variable {w : List (List Int)} (hw : Web w)
include hw
theorem hgt_pos {k : Nat} (hk : k < w.length) : 1 ≤ at' (hgt w) k := by
  rw [hgt_at hk]
  exact lev_pos (web_turn hw) (by rw [turn_len]; omega)
theorem hgt_lt {d far : Nat} (hf : far < w.length) (hm : (d : Int) ∈ rw' w far) : at' (hgt w) far + 1 ≤ at' (hgt w) d := by
  have b := (hw.rowOk hf).bd _ hm
  have hd : d < w.length := by omega
  rw [hgt_at hf, hgt_at hd]
  have := lev_lt (web_turn hw) (k := w.length - 1 - d) (by rw [turn_len]; omega) (near := ((w.length - 1 - far : Nat) : Int)) ((mem_turn (by omega) _).mpr ⟨w.length - 1 - far, by omega, rfl, by
    rw [show w.length - 1 - (w.length - 1 - d) = d from by omega, show w.length - 1 - (w.length - 1 - far) = far from by omega]
    exact hm⟩)
  exact this
theorem hgt_up {d : Nat} (hd : d < w.length) (h : 1 < at' (hgt w) d) : ∃ far : Nat, far < w.length ∧ (d : Int) ∈ rw' w far ∧ at' (hgt w) far + 1 = at' (hgt w) d := by
  rw [hgt_at hd] at h
  obtain ⟨near, hn, e⟩ := lev_dn (web_turn hw) (by rw [turn_len]; omega) h
  obtain ⟨k, hk, rfl, hm⟩ := (mem_turn (by omega) near).mp hn
  rw [show w.length - 1 - (w.length - 1 - d) = d from by omega] at hm
  refine ⟨w.length - 1 - k, by omega, hm, ?_⟩
  rw [hgt_at hd, hgt_at (show w.length - 1 - k < w.length by omega), show w.length - 1 - (w.length - 1 - k) = k from by omega]
  exact e
/-- the height by those behind -/
theorem hgt_rec {d : Nat} (hd : d < w.length) : at' (hgt w) d = 1 + mx0 (((List.range w.length).filter fun far => decide ((d : Int) ∈ rw' w far)).map fun far => at' (hgt w) far) := by
  have e : mx0 (((List.range w.length).filter fun far => decide ((d : Int) ∈ rw' w far)).map fun far => at' (hgt w) far) = at' (hgt w) d - 1 := by
    refine mx0_eq (fun x hx => ?_) ?_
    · obtain ⟨far, hf, rfl⟩ := List.mem_map.mp hx
      have hf' := List.mem_filter.mp hf
      have := hgt_lt hw (List.mem_range.mp hf'.1) (of_decide_eq_true hf'.2)
      omega
    · by_cases h : 1 < at' (hgt w) d
      · obtain ⟨far, hf, hm, e⟩ := hgt_up hw hd h
        exact .inr (List.mem_map.mpr ⟨far, List.mem_filter.mpr ⟨List.mem_range.mpr hf, decide_eq_true hm⟩, by omega⟩)
      · have := hgt_pos hw hd
        refine .inl ⟨?_, by omega⟩
        rw [List.map_eq_nil_iff, List.filter_eq_nil_iff]
        intro far hf hm
        have hf := List.mem_range.mp hf
        have := hgt_lt hw hf (of_decide_eq_true hm)
        have := hgt_pos hw hf
        omega
  omega
end
/-- the depth -/
def dep (w : List (List Int)) : Int := mx0 (lev w)
section
variable {w : List (List Int)} (hw : Web w)
include hw
theorem lev_le {k : Nat} (hk : k < w.length) : at' (lev w) k ≤ dep w := (mx0_spec (lev w)).1 _ (List.mem_of_getElem? (at_some (by rw [lev_len]; exact hk)))
theorem dep_nn : 0 ≤ dep w := by
  obtain ⟨_, a2⟩ := mx0_spec (lev w)
  rcases a2 with ⟨_, e⟩ | a2
  · show 0 ≤ mx0 (lev w)
    omega
  · obtain ⟨k, hk⟩ := List.getElem?_of_mem a2
    have hkl : k < w.length := by
      by_cases q : k < w.length
      · exact q
      · rw [List.getElem?_eq_none (by rw [lev_len]; omega)] at hk; cases hk
    have := lev_pos hw hkl
    rw [at_of hk] at this
    show 0 ≤ mx0 (lev w)
    omega
theorem dep_le : dep w ≤ w.length := by
  have gen : ∀ k, k < w.length → at' (lev w) k ≤ k + 1 := by
    intro k
    induction k using Nat.strongRecOn with
    | ind k ih =>
      intro hk
      by_cases h : 1 < at' (lev w) k
      · obtain ⟨near, hn, e⟩ := lev_dn hw hk h
        have b := (hw.rowOk hk).bd near hn
        have := ih near.toNat (by omega) (by omega)
        omega
      · omega
  obtain ⟨_, a2⟩ := mx0_spec (lev w)
  rcases a2 with ⟨_, e⟩ | a2
  · show mx0 (lev w) ≤ _
    omega
  · obtain ⟨k, hk⟩ := List.getElem?_of_mem a2
    have hkl : k < w.length := by
      by_cases q : k < w.length
      · exact q
      · rw [List.getElem?_eq_none (by rw [lev_len]; omega)] at hk; cases hk
    have := gen k hkl
    rw [at_of hk] at this
    show mx0 (lev w) ≤ _
    omega
/-- level and height together -/
theorem lev_hgt : ∀ (m d : Nat), d < w.length → w.length - d ≤ m → at' (lev w) d + at' (hgt w) d ≤ dep w + 1 := by
  intro m
  induction m with
  | zero => intro d hd hm; omega
  | succ m ih =>
    intro d hd hm
    by_cases h : 1 < at' (hgt w) d
    · obtain ⟨far, hf, hmem, e⟩ := hgt_up hw hd h
      have b := (hw.rowOk hf).bd _ hmem
      have := ih far hf (by omega)
      have := lev_lt hw hf hmem
      rw [show ((d : Int)).toNat = d from rfl] at this
      omega
    · have := lev_le hw hd
      omega
theorem lev_hgt' {d : Nat} (hd : d < w.length) : at' (lev w) d + at' (hgt w) d ≤ dep w + 1 := lev_hgt hw _ d hd (Nat.le_refl _)
/-- a first deed of greatest height -/
theorem top_ex (h : 0 < dep w) : ∃ d : Nat, d < w.length ∧ at' (lev w) d = 1 ∧ at' (hgt w) d = dep w := by
  have gen : ∀ (m : Nat), (m : Int) < dep w → ∃ d : Nat, d < w.length ∧ at' (lev w) d = dep w - m ∧ (m : Int) + 1 ≤ at' (hgt w) d := by
    intro m
    induction m with
    | zero =>
      intro _
      obtain ⟨_, a2⟩ := mx0_spec (lev w)
      rcases a2 with ⟨_, e⟩ | a2
      · have : dep w = 0 := e
        omega
      · obtain ⟨k, hk⟩ := List.getElem?_of_mem a2
        have hkl : k < w.length := by
          by_cases q : k < w.length
          · exact q
          · rw [List.getElem?_eq_none (by rw [lev_len]; omega)] at hk; cases hk
        refine ⟨k, hkl, ?_, ?_⟩
        · rw [at_of hk]
          show mx0 (lev w) = mx0 (lev w) - (0 : Int)
          omega
        · have := hgt_pos hw hkl
          omega
    | succ m ih =>
      intro hm
      obtain ⟨d, hd, e1, e2⟩ := ih (by omega)
      obtain ⟨near, hn, e3⟩ := lev_dn hw hd (by omega)
      have b := (hw.rowOk hd).bd near hn
      have hn' : ((near.toNat : Nat) : Int) ∈ rw' w d := by rw [show ((near.toNat : Nat) : Int) = near from by omega]; exact hn
      have := hgt_lt hw hd hn'
      exact ⟨near.toNat, by omega, by omega, by omega⟩
  obtain ⟨d, hd, e1, e2⟩ := gen (dep w - 1).toNat (by omega)
  have := lev_hgt' hw hd
  exact ⟨d, hd, by omega, by omega⟩
end
end W02
end

section
set_option Elab.async false
set_option linter.all false
set_option maxRecDepth 100000
/-! k02: what the functions answer (2). -/
namespace W02
open PySem L2 PD WM

/-- the numbers below N -/
def upto (N : Nat) : List Int := (List.range N).map fun k => ((k : Nat) : Int)
theorem upto_mem {N : Nat} {x : Int} (h : x ∈ upto N) : 0 ≤ x ∧ x < N := by
  obtain ⟨k, hk, rfl⟩ := List.mem_map.mp h
  have := List.mem_range.mp hk
  omega
theorem upto_nodup (N : Nat) : (upto N).Nodup := by
  unfold upto List.Nodup
  rw [List.pairwise_map]
  exact List.pairwise_lt_range.imp fun {a b} h => by omega
theorem upto_len (N : Nat) : (upto N).length = N := by unfold upto; rw [List.length_map, List.length_range]
/-- a call of one thing whose making changes slots: what is made may be a list of its own -/
theorem ev_call1G {n k i : Nat} {e : IE} {env env1 : PD.Env} {o1 o : O} (h : EV (callF tab (n + 20)) e env o1 env1) (hr : Ret tab k i [.d o1.toD] o) (hk : k ≤ 20) (hp : (sem (callF tab (n + 20)) e).p = toP (sem (callF tab (n + 20)) e).v := by rfl) : EV (callF tab (n + 20)) (.call i [e]) env o env1 := by
  obtain ⟨fin, h3, h4⟩ := hr.le hk n
  refine ev_callL (ps := [.val o1.toD]) (os := [.d o1.toD]) (env1 := env1) ?_ rfl rfl h3 h4 ?_
  · show mCons (sem (callF tab (n + 20)) e).p mNil env = _
    unfold mCons
    rw [pv_of h hp]
    rfl
  · exact give_none _ _ _ _ rfl
theorem lrng_upto {N : Nat} (h : N ≤ 60) : lrngf 0 (N : Nat) = some (.lst ((upto N).map oI)) := by
  have h1 : smallI (N : Int) = true := smallI_nat (by omega)
  have h2 : decide (((N : Int) - 0).toNat ≤ 16777216) = true := decide_eq_true (by omega)
  have h3 : smallI 0 = true := smallI_nat (n := 0) (by omega)
  have h4 : mkL (rngV 0 (N : Nat)) = .lst ((upto N).map oI) := by
    unfold mkL rngV upto
    rw [List.map_map, List.map_map, Int.sub_zero]
    refine congrArg O.lst (List.map_congr_left fun k _ => ?_)
    show O.d (.int (0 + (k : Int))) = oI k
    rw [Int.zero_add]
  unfold lrngf guardB
  rw [h1, h2, h3, h4]
  rfl
theorem ps3 {C : CallT} {e1 e2 e3 : IE} {env env1 env2 env3 : PD.Env} {p1 p2 p3 : Opnd} (h1 : (sem C e1).p env = some (p1, env1)) (h2 : (sem C e2).p env1 = some (p2, env2)) (h3 : (sem C e3).p env2 = some (p3, env3)) : semPs C [e1, e2, e3] env = some ([p1, p2, p3], env3) := by
  show mCons (sem C e1).p (mCons (sem C e2).p (mCons (sem C e3).p mNil)) env = _
  unfold mCons
  rw [h1]
  simp only [h2, h3]
  rfl
theorem max0_fn {o : O} {ns : List Int} (h : asList o = some (ns.map .int)) : fnf .max0 [o] = some (oI (mx0 ns)) := by
  show (match asList o with
    | some xs => match isInts xs with
      | some ns => some (oInt ((maxI ns).getD 0))
      | none => none
    | none => none) = _
  rw [h]
  simp only [isInts_map]
  rfl
theorem max_fn0 {o : O} {ns : List Int} (h : asList o = some ((ns ++ [0]).map .int)) (h0 : ∀ x ∈ ns, 0 ≤ x) : fnf .max [o] = some (oI (mx0 ns)) := by
  show (match asList o with
    | some xs => match isInts xs with
      | some ns => (maxI ns).map oInt
      | none => none
    | none => none) = _
  rw [h]
  simp only [isInts_map, maxI_snoc0 h0]
  rfl
theorem s_work {x : D} {w : List (List Int)} (hx : Soft x w) : Ret tab 1 10 [.d x] (oI (w.length : Nat)) :=
  ret_of (r := ir_work) rfl fun n => ⟨_, xs_ret (ev_fn1 ep_var hx.len), rfl⟩
theorem ix_int {C : CallT} {env : PD.Env} {a b : IE} {o : O} {l : List Int} {z : Int} (ha : EP C a env o) (hb : EP C b env (oI z)) (hl : asSeq o = some (l.map .int)) (h0 : 0 ≤ z) (h1 : z < l.length) : EV C (.op2 .ix a b) env (oI (at' l z.toNat)) env :=
  ev_op2 ha hb (ix_nat (f := PyData.int) (xs := l) (k := z.toNat) hl (by omega) (at_some (by omega)))
theorem s_levels {x : D} {w : List (List Int)} (hx : Soft x w) (hw : Web w) : Ret tab 4 11 [.d x] (.lst ((lev w).map oI)) := by
  refine ret_of (r := ir_levels) rfl fun n => ?_
  have hlen := hw.len
  have hs : evSrcF (callF tab (n + 3)) (.seq (.call 3 [.var 0])) [some (.d x), some (.lst []), none, none] = some (((w.map fun r => Item.one (dT r)), none), [some (.d x), some (.lst []), none, none]) := by
    refine (es_seq (ev_ret (s_tuple_web w hx (by omega) fun r hr => by have := hw.mem hr; omega) (Nat.le_refl _) (eps_cons ep_var eps_nil)) (xs := w.map dT) rfl).trans ?_
    rw [List.map_map]
    rfl
  obtain ⟨env1, h1, last, h2⟩ := for_inv (I := fun k env => ∃ last, env = [some (.d x), some (.lst ((lev (w.take k)).map oI)), last, none]) (f := fun x e => match stTg (.name 2) x e with
      | some e1 => exs (callF tab (n + 3)) [false] [.app 1 (.op2 .add (.cint 1) (.fn .max0 [(.comp (.op2 .ix (.var 1) (.var 3)) (.name 3) (.seq (.var 2)) none [3])]))] e1
      | none => none) (w.map fun r => Item.one (dT r)) 0 [some (.d x), some (.lst []), none, none] ⟨none, rfl⟩ fun k it env hk hi => by
    obtain ⟨hkl, rfl⟩ := opt_get hk
    rw [Nat.zero_add] at hi ⊢
    obtain ⟨last, rfl⟩ := hi
    rw [lev_take w k _ (get_some hkl)]
    generalize hf : lev (w.take k) = found
    have hfl : found.length = k := by rw [← hf, lev_len, List.length_take]; omega
    generalize hr : rw' w k = r
    have hok : RowOk k r := hr ▸ hw.rowOk hkl
    have hrl := hok.len
    refine ⟨[some (.d x), some (.lst (found.map oI ++ [oI (levIn found r)])), some (.d (dT r)), none], ?_, _, by rw [snoc_map]⟩
    have hcomp : EV (callF tab (n + 3)) (.comp (.op2 .ix (.var 1) (.var 3)) (.name 3) (.seq (.var 2)) none [3]) [some (.d x), some (.lst (found.map oI)), some (.d (dT r)), none] (.lst (r.map fun near => oI (at' found near.toNat))) [some (.d x), some (.lst (found.map oI)), some (.d (dT r)), none] := by
      refine cA (xs := r) (emb := PyData.int) (f := fun near => oI (at' found near.toNat)) (es_rowD (i := 2) (x := dT r) rfl rfl) (fun near hn => ?_) (by omega)
      have b := hok.bd near hn
      exact ix_int (l := found) (ep_own (i := 1) (os := found.map oI) rfl (by rw [datas_map PyData.int]; rfl)) (ep_var (i := 3) rfl) (asSeq_map PyData.int found) b.1 (by omega)
    have hp := ep_of hcomp
    rw [toD_map (fun near : Int => PyData.int (at' found near.toNat))] at hp
    show exs _ _ _ _ = _
    refine xs_app (os := found.map oI) (os1 := found.map oI) (o := oI (levIn found r)) rfl (ev_op2 (y := oI (mx0 (r.map fun near => at' found near.toNat))) (ep_d (e := .cint 1) rfl) (ep_d (ev_fn1 hp (max0_fn ?_))) (op_addI _ _)) rfl (by rw [List.length_map, sizeLine_eq]; omega) xs_nil
    rw [List.map_map]
    rfl
  rw [Nat.zero_add, List.length_map, List.take_length] at h2
  exact ⟨_, xs_asg (o := .lst []) rfl (xs_for (env1 := [some (.d x), some (.lst []), none, none]) hs h1 (by rw [h2]; exact xs_retV rfl)), rfl⟩
theorem ep_ints {C : CallT} {env : PD.Env} {e : IE} {l : List Int} (h : EV C e env (.lst (l.map oI)) env) (hp : (sem C e).p = toP (sem C e).v := by rfl) : EP C e env (.d (dL l)) := by
  have := ep_of h hp
  rw [toD_map PyData.int] at this
  exact this
theorem s_depth {x : D} {w : List (List Int)} (hx : Soft x w) (hw : Web w) : Ret tab 5 13 [.d x] (oI (dep w)) :=
  ret_of (r := ir_depth) rfl fun n => ⟨_, xs_ret (ev_fn1 (ep_ints (ev_ret (k := 4) (s_levels hx hw) (Nat.le_refl _) (eps_cons ep_var eps_nil))) (max0_fn rfl)), rfl⟩
theorem s_turnW {x : D} {w : List (List Int)} (hx : Soft x w) (hw : Web w) : Ret tab 4 9 [.d x] (.d (dW (turnW w))) := by
  have := s_turned hx hw
  rw [lback_eq hw] at this
  exact this
theorem s_heights {x : D} {w : List (List Int)} (hx : Soft x w) (hw : Web w) : Ret tab 5 12 [.d x] (.lst ((hgt w).map oI)) := by
  refine ret_of (r := ir_heights) rfl fun n => ?_
  refine ⟨_, xs_ret (ev_rev (ep_ints (ev_ret (k := 4) (s_levels (Soft.hard (turnW w)) (web_turn hw)) (Nat.le_refl _) (eps_cons (ep_d (ev_ret (k := 4) (s_turnW hx hw) (Nat.le_refl _) (eps_cons ep_var eps_nil))) eps_nil))) ?_), rfl⟩
  show some (mkL ((lev (turnW w)).map PyData.int).reverse) = _
  unfold mkL hgt
  rw [← List.map_reverse, List.map_map]
  rfl
theorem zip_at (l m : List Int) (h : l.length = m.length) : l.zip m = (List.range l.length).map fun k => (at' l k, at' m k) := by
  apply List.ext_getElem?
  intro i
  by_cases hi : i < l.length
  · have e1 : (l.zip m)[i]? = some (at' l i, at' m i) := List.getElem?_zip_eq_some.mpr ⟨at_some hi, at_some (by omega)⟩
    rw [e1, List.getElem?_map, List.getElem?_range hi]
    rfl
  · rw [List.getElem?_eq_none (by rw [List.length_zip]; omega), List.getElem?_eq_none (by simpa using hi)]
/-- the slack -/
def slk (w : List (List Int)) : List Int := (List.range w.length).map fun k => dep w + 1 - at' (lev w) k - at' (hgt w) k
theorem slk_len (w : List (List Int)) : (slk w).length = w.length := by unfold slk; rw [List.length_map, List.length_range]
theorem slk_at {w : List (List Int)} {k : Nat} (hk : k < w.length) : at' (slk w) k = dep w + 1 - at' (lev w) k - at' (hgt w) k := by
  apply at_of
  unfold slk
  rw [List.getElem?_map, List.getElem?_range hk]
  rfl
theorem s_slack {x : D} {w : List (List Int)} (hx : Soft x w) (hw : Web w) : Ret tab 6 19 [.d x] (.lst ((slk w).map oI)) := by
  refine ret_of (r := ir_slack) rfl fun n => ?_
  have hlen := hw.len
  have hl := lev_len w
  have hh := hgt_len w
  have hs : semS (callF tab (n + 5)) (.zip (.call 11 [(.var 0)]) (.call 12 [(.var 0)])) [some (.d x), some (oI (dep w)), none, none] = some ((((List.range w.length).map fun k => Item.row [.int (at' (lev w) k), .int (at' (hgt w) k)]), none), [some (.d x), some (oI (dep w)), none, none]) := by
    have := es_zip (C := callF tab (n + 5)) (env := [some (.d x), some (oI (dep w)), none, none]) (ps := ((lev w).map PyData.int).zip ((hgt w).map PyData.int)) (ev_ret (k := 5) (n := n) (s_levels hx hw) (by decide) (es := [.var 0]) (eps_cons ep_var eps_nil)) (ev_ret (k := 5) (n := n) (s_heights hx hw) (by decide) (es := [.var 0]) (eps_cons ep_var eps_nil)) (by rw [toD_map PyData.int, toD_map PyData.int]; rfl)
    rw [this, zipR_ints, zip_at _ _ (by omega), List.map_map, hl]
    rfl
  have e : (slk w).map oI = (List.range w.length).map fun k => oI (dep w + 1 - at' (lev w) k - at' (hgt w) k) := by
    unfold slk
    rw [List.map_map]
    rfl
  have hcomp := ev_compM (C := callF tab (n + 5)) (env := [some (.d x), some (oI (dep w)), none, none]) (elt := .op2 .sub (.op2 .sub (.op2 .add (.var 1) (.cint 1)) (.var 2)) (.var 3)) (tg := .tup [2, 3]) (src := .zip (.call 11 [(.var 0)]) (.call 12 [(.var 0)])) (cond := none) (vs := [2, 3]) (xs := List.range w.length) (emb := fun k => Item.row [.int (at' (lev w) k), .int (at' (hgt w) k)]) (w := none) (g := fun k => [oI (dep w + 1 - at' (lev w) k - at' (hgt w) k)]) hs rfl (fun k hk => turn_all (env1 := [some (.d x), some (oI (dep w)), some (oI (at' (lev w) k)), some (oI (at' (hgt w) k))]) rfl (ev_op2 (ep_d (ev_op2 (ep_d (ev_op2 (ep_var (i := 1) rfl) (ep_d (e := .cint 1) rfl) (op_addI _ _))) (ep_var (i := 2) rfl) (op_sub _ _))) (ep_var (i := 3) rfl) (op_sub _ _)) rfl) (by rw [flatMap_one, List.length_map, List.length_range]; exact small_size (by omega)) rfl
  rw [flatMap_one, ← e] at hcomp
  exact ⟨_, xs_asg (ev_ret (k := 5) (n := n) (s_depth hx hw) (Nat.le_refl _) (eps_cons ep_var eps_nil)) (xs_ret hcomp), rfl⟩
def mustW (w : List (List Int)) : List Int := pick w.length fun k => decide (at' (slk w) k = 0)
theorem ints_range {l : List Int} {n : Nat} (h : l.length = n) : l.map PyData.int = (List.range n).map fun k => PyData.int (at' l k) := by
  apply List.ext_getElem?
  intro i
  rw [List.getElem?_map, List.getElem?_map]
  by_cases hi : i < n
  · rw [List.getElem?_range hi, at_some (by omega)]; rfl
  · rw [List.getElem?_eq_none (by omega), List.getElem?_eq_none (by simpa using hi)]; rfl
theorem s_must {x : D} {w : List (List Int)} (hx : Soft x w) (hw : Web w) : Ret tab 7 20 [.d x] (.d (dT (mustW w))) := by
  refine ret_of (r := ir_must_in_time) rfl fun n => ?_
  have hlen := hw.len
  have hsl := slk_len w
  have hs : semS (callF tab (n + 6)) (.enum (.call 19 [(.var 0)])) [some (.d x), none, none] = some ((((List.range w.length).map fun k => Item.row [.int (k : Nat), .int (at' (slk w) k)]), none), [some (.d x), none, none]) :=
    es_enumN (f := fun k => PyData.int (at' (slk w) k)) (ev_ret (k := 6) (n := n) (s_slack hx hw) (Nat.le_refl _) (eps_cons ep_var eps_nil)) (by
      rw [toD_map PyData.int, ints_range hsl]
      rfl)
  refine ⟨_, xs_ret (ev_fn1 (ep_of (ev_compM (xs := List.range w.length) (emb := fun k => Item.row [.int (k : Nat), .int (at' (slk w) k)]) (w := none) (g := fun k => if decide (at' (slk w) k = 0) = true then [oI (k : Nat)] else []) hs rfl (fun k hk => ?_) (pick_size (by omega)) rfl)) (pick_tup _ _)), rfl⟩
  exact turn_if (env1 := [some (.d x), some (oI (k : Nat)), some (oI (at' (slk w) k))]) rfl (et_bl (ev_op2 (ep_var (i := 2) rfl) (ep_d (e := .cint 0) rfl) (eq_int _ 0))) (fun _ => ev_var) rfl
theorem s_share {x : D} {w : List (List Int)} (hx : Soft x w) (hw : Web w) : Ret tab 6 21 [.d x] (.d (.tuple [.int (w.length : Nat), .int (dep w)])) :=
  ret_of (r := ir_share_of_work) rfl fun n => ⟨_, xs_ret (ev_tup (ds_cons (ev_ret (k := 5) (n := n) (s_work hx) (by decide) (eps_cons ep_var eps_nil)) (ds_cons (ev_ret (k := 5) (n := n) (s_depth hx hw) (Nat.le_refl _) (eps_cons ep_var eps_nil)) ds_nil)) (small_size (show 2 ≤ 100000 by decide))), rfl⟩
theorem pick_of {C : CallT} {env : PD.Env} {v N : Nat} {e c : IE} {p : Nat → Bool} (he : EV C e env (oI (N : Nat)) env) (hN : N ≤ 60) (hc : ∀ k, k < N → ET C c (env.set v (some (oI (k : Nat)))) (p k)) (hv : env[v]? = some none := by rfl) : EV C (.fn .tuple [(.comp (.var v) (.name v) (.rng1 e) (some c) [v])]) env (.d (dT (pick N p))) env := by
  have := tupOf (ys := (List.range N).filter p) (g := fun d : Nat => PyData.int (d : Nat)) (cF (C := C) (env := env) (v := v) (elt := .var v) (c := c) (emb := fun k : Nat => PyData.int (k : Nat)) (f := fun d : Nat => oI (d : Nat)) (es_rngN he (by omega)) (fun d hd => hc d (List.mem_range.mp hd)) (fun d hd _ => ev_var (look_set hv _)) (by rw [List.length_range]; omega) hv)
  have e2 : dT (pick N p) = PyData.tuple (((List.range N).filter p).map fun d : Nat => PyData.int (d : Nat)) := by
    unfold pick dT
    rw [List.map_map]
    rfl
  rw [e2]
  exact this
/-- the lots by levels -/
def lotAt (w : List (List Int)) (l : Int) : List Int := pick w.length fun k => decide (at' (lev w) k = l)
def lotsW (w : List (List Int)) : List (List Int) := (List.range (dep w).toNat).map fun m => lotAt w (1 + (m : Nat))
theorem rng_lots {C : CallT} {env : PD.Env} {a b : IE} {d : Int} (h0 : 0 ≤ d) (h1 : d ≤ 60) (ha : EV C a env (oI 1) env) (hb : EV C b env (oI (d + 1)) env) : semS C (.rng2 a b) env = some ((((List.range d.toNat).map fun m : Nat => Item.one (.int (1 + (m : Nat)))), none), env) := by
  refine (es_rng2 (l := 1) (j := d + 1) ha hb (by decide) (by unfold smallI; simp only [Bool.and_eq_true, decide_eq_true_eq]; omega)).trans ?_
  unfold rngV
  rw [List.map_map, show d + 1 - 1 = d from by omega]
  rfl
theorem s_lots {x : D} {w : List (List Int)} (hx : Soft x w) (hw : Web w) : Ret tab 6 16 [.d x] (.d (dW (lotsW w))) := by
  refine ret_of (r := ir_lots) rfl fun n => ?_
  have hlen := hw.len
  have hl := lev_len w
  have d0 := dep_nn hw
  have d1 := dep_le hw
  have e : dW (lotsW w) = .tuple ((List.range (dep w).toNat).map fun m => dT (lotAt w (1 + (m : Nat)))) := by
    unfold lotsW dW
    rw [List.map_map]
    rfl
  rw [e]
  refine ⟨_, xs_asg (ev_ret (k := 5) (n := n) (s_levels hx hw) (by decide) (eps_cons ep_var eps_nil)) (xs_ret (env1 := [some (.d x), some (.lst ((lev w).map oI)), none, none]) (tupOf (ys := List.range (dep w).toNat) (g := fun m => dT (lotAt w (1 + (m : Nat)))) (cA (xs := List.range (dep w).toNat) (emb := fun m : Nat => PyData.int (1 + (m : Nat))) (f := fun m => .d (dT (lotAt w (1 + (m : Nat))))) (rng_lots d0 (by omega) rfl (ev_op2 (ep_d (ev_ret (k := 5) (n := n) (s_depth hx hw) (Nat.le_refl _) (eps_cons ep_var eps_nil))) (ep_d (e := .cint 1) rfl) (op_addI _ _))) (fun m hm => ?_) (by rw [List.length_range]; omega)))), rfl⟩
  refine pick_of (N := w.length) (p := fun k => decide (at' (lev w) k = 1 + (m : Nat))) (ev_fn1 (ep_var (i := 0) rfl) hx.len) hlen fun k hk => ?_
  exact et_bl (ev_op2 (ep_d (ix_int (l := lev w) (z := (k : Nat)) (ep_own (i := 1) (os := (lev w).map oI) rfl (by rw [datas_map PyData.int]; rfl)) (ep_var (i := 2) rfl) (asSeq_map PyData.int _) (by omega) (by omega))) (ep_var (i := 3) rfl) (eq_int _ _))
end W02
end

section
set_option Elab.async false
set_option linter.all false
set_option maxRecDepth 100000
/-! k02: what the functions answer (3): reach, paths, sets apart, lots, papers. -/
namespace W02
open PySem L2 PD WM

theorem zipW_at (l m : List (List Int)) (h : l.length = m.length) : l.zip m = (List.range l.length).map fun k => (rw' l k, rw' m k) := by
  apply List.ext_getElem?
  intro i
  by_cases hi : i < l.length
  · have e1 : (l.zip m)[i]? = some (rw' l i, rw' m i) := List.getElem?_zip_eq_some.mpr ⟨get_some hi, get_some (by omega)⟩
    rw [e1, List.getElem?_map, List.getElem?_range hi]
    rfl
  · rw [List.getElem?_eq_none (by rw [List.length_zip]; omega), List.getElem?_eq_none (by simpa using hi)]
theorem xs_if_retB {C : CallT} {bor : List Bool} {c : IE} {b : Bool} {s2 ss : List IS} {env : PD.Env} (hc : ET C c env true) : exs C bor (.ifs c [.ret (.cbl b)] s2 :: ss) env = some (.rt (oB b) env) := by
  refine xs_if_ret hc ?_
  rw [if_pos rfl]
  exact xs_ret (e := .cbl b) (o := oB b) rfl
def reachW (w : List (List Int)) : List (Int × Int) := (List.range w.length).map fun k => (((rw' (ab w) k).length : Int), ((rw' (bl w) k).length : Int))
theorem s_reach {x : D} {w : List (List Int)} (hx : Soft x w) (hw : Web w) : Ret tab 6 24 [.d x] (.lst ((reachW w).map fun p => .d (pD p))) := by
  refine ret_of (r := ir_reach) rfl fun n => ?_
  have hlen := hw.len
  have hal := ab_len w
  have hbl := bl_len w
  have hs : semS (callF tab (n + 5)) (.zip (.call 7 [(.var 0)]) (.call 8 [(.var 0)])) [some (.d x), none, none] = some ((((List.range w.length).map fun k => Item.row [dT (rw' (ab w) k), dT (rw' (bl w) k)]), none), [some (.d x), none, none]) := by
    have := es_zip (C := callF tab (n + 5)) (env := [some (.d x), none, none]) (ps := ((ab w).map dT).zip ((bl w).map dT)) (ev_ret (k := 5) (n := n) (s_all_above hx hw) (by decide) (es := [.var 0]) (eps_cons ep_var eps_nil)) (ev_ret (k := 5) (n := n) (s_all_below hx hw) (by decide) (es := [.var 0]) (eps_cons ep_var eps_nil)) (by rw [toD_map, toD_map]; rfl)
    rw [this, zipR_rows, zipW_at _ _ (by omega), List.map_map, hal]
    rfl
  have e : (reachW w).map (fun p => O.d (pD p)) = (List.range w.length).map fun k => O.d (pD (((rw' (ab w) k).length : Int), ((rw' (bl w) k).length : Int))) := by
    unfold reachW
    rw [List.map_map]
    rfl
  have hcomp := ev_compM (C := callF tab (n + 5)) (env := [some (.d x), none, none]) (elt := .tup [(.fn .len [(.var 1)]), (.fn .len [(.var 2)])]) (tg := .tup [1, 2]) (src := .zip (.call 7 [(.var 0)]) (.call 8 [(.var 0)])) (cond := none) (vs := [1, 2]) (xs := List.range w.length) (emb := fun k => Item.row [dT (rw' (ab w) k), dT (rw' (bl w) k)]) (w := none) (g := fun k => [O.d (pD (((rw' (ab w) k).length : Int), ((rw' (bl w) k).length : Int)))]) hs rfl (fun k hk => turn_all (env1 := [some (.d x), some (.d (dT (rw' (ab w) k))), some (.d (dT (rw' (bl w) k)))]) rfl (ev_tup (ds_cons (ev_fn1 (ep_var (i := 1) rfl) (len_map (f := PyData.int) (xs := rw' (ab w) k) rfl)) (ds_cons (ev_fn1 (ep_var (i := 2) rfl) (len_map (f := PyData.int) (xs := rw' (bl w) k) rfl)) ds_nil)) (small_size (show 2 ≤ 100000 by decide))) rfl) (by rw [flatMap_one, List.length_map, List.length_range]; exact small_size (by omega)) rfl
  rw [flatMap_one, ← e] at hcomp
  exact ⟨_, xs_ret hcomp, rfl⟩
/-! ### paths -/
theorem s_number_bool (b : Bool) : Ret tab 1 0 [.d (.bool b)] (oB false) := fun n => by cases b <;> exact ⟨_, rfl, rfl⟩
theorem s_below_bool (b : Bool) (m : Int) : Ret tab 2 1 [.d (.bool b), oI m] (oB false) := by
  refine ret_of (r := ir_is_below) rfl fun n => ?_
  refine ⟨_, xs_ret (ev_andB (p := false) (q := true) (ev_ret (s_number_bool b) (Nat.le_refl _) (eps_cons ep_var eps_nil)) fun z => by cases z), rfl⟩
abbrev gCond : IE := .or (.not (.isi (.var 1) .tuple)) (.not (.fn .all [(.comp (.call 1 [(.var 2), (.fn .len [(.var 0)])]) (.name 2) (.seq (.var 1)) none [2])]))
theorem guard_ok {n k : Nat} (hk : 2 ≤ k) {x : D} {w : List (List Int)} (hx : Soft x w) {ps : List Int} (hl : ps.length ≤ 1000) (hb : ∀ a ∈ ps, 0 ≤ a ∧ a < w.length) : ET (callF tab (n + k)) gCond [some (.d x), some (.d (dT ps)), none, none, none, none] false := by
  have hall := all_map (p := fun _ : Int => true) (xs := ps)
  rw [show (ps.all fun _ => true) = true from List.all_eq_true.mpr fun _ _ => rfl] at hall
  have hc := cA (C := callF tab (n + k)) (env := [some (.d x), some (.d (dT ps)), none, none, none, none]) (v := 2) (elt := .call 1 [(.var 2), (.fn .len [(.var 0)])]) (xs := ps) (emb := PyData.int) (f := fun _ => oB true) (es_rowD (i := 1) (x := dT ps) rfl rfl) (fun a ha => by
    have b := hb a ha
    have := ev_ret (k := k) (n := n) (env := [some (.d x), some (.d (dT ps)), some (oI a), none, none, none]) (s_is_below a (w.length : Nat)) hk (es := [.var 2, .fn .len [.var 0]]) (eps_cons ep_var (eps_cons (ep_d (ev_fn1 ep_var hx.len)) eps_nil))
    rw [decide_eq_true b.1, decide_eq_true (show a < (w.length : Nat) from b.2)] at this
    exact this) (by omega) rfl
  have hp := ep_of hc
  rw [toD_map (fun _ => PyData.bool true)] at hp
  exact et_or (p := false) (q := false) (et_not (p := true) (et_bl (ev_isi (ty := .tuple) ep_var rfl))) fun _ => et_not (p := true) (et_bl (ev_fn1 hp hall))
theorem guard_bad {n k : Nat} (hk : 2 ≤ k) {x : D} {w : List (List Int)} (hx : Soft x w) (b : Bool) : ET (callF tab (n + k)) gCond [some (.d x), some (.d (.tuple [.bool b])), none, none, none, none] true := by
  have hc := cA (C := callF tab (n + k)) (env := [some (.d x), some (.d (.tuple [.bool b])), none, none, none, none]) (v := 2) (elt := .call 1 [(.var 2), (.fn .len [(.var 0)])]) (src := .seq (.var 1)) (xs := [b]) (emb := PyData.bool) (f := fun _ => oB false) (show semS (callF tab (n + k)) (.seq (.var 1)) _ = _ from es_varD (i := 1) (env := [some (.d x), some (.d (.tuple [.bool b])), none, none, none, none]) (x := .tuple [.bool b]) (xs := [.bool b]) rfl rfl) (fun a ha => by
    exact ev_ret (k := k) (n := n) (env := [some (.d x), some (.d (.tuple [.bool b])), some (.d (.bool a)), none, none, none]) (s_below_bool a (w.length : Nat)) hk (es := [.var 2, .fn .len [.var 0]]) (eps_cons ep_var (eps_cons (ep_d (ev_fn1 ep_var hx.len)) eps_nil))) (by simp) rfl
  have hp := ep_of hc
  rw [toD_map (fun _ => PyData.bool false)] at hp
  exact et_or (p := false) (q := true) (et_not (p := true) (et_bl (ev_isi (ty := .tuple) ep_var rfl))) fun _ => et_not (p := false) (et_bl (ev_fn1 hp rfl))
def pathB (w : List (List Int)) (ps : List Int) : Bool := (ps.zip (ps.drop 1)).all fun p => decide (p.1 ∈ rw' (ab w) p.2.toNat)
theorem s_is_path {x : D} {w : List (List Int)} (hx : Soft x w) (hw : Web w) {ps : List Int} (hl : ps.length ≤ 1000) (hb : ∀ a ∈ ps, 0 ≤ a ∧ a < w.length) : Ret tab 5 15 [.d x, .d (dT ps)] (oB (pathB w ps)) := by
  refine ret_of (r := ir_is_path) rfl fun n => ?_
  have hal := ab_len w
  have hz : semS (callF tab (n + 4)) (.zip (.var 1) (.slc (.var 1) (some (.cint 1)) none)) [some (.d x), some (.d (dT ps)), none, some (.lst (oW (ab w))), none, none] = some ((((ps.zip (ps.drop 1)).map fun p => Item.row [.int p.1, .int p.2]), none), [some (.d x), some (.d (dT ps)), none, some (.lst (oW (ab w))), none, none]) := by
    rw [← zipR_ints]
    exact es_zip (ev_var rfl) (ev_slc (ep_var (i := 1) rfl) (ei_some (l := 1) rfl) ei_none (cutD_tail ps (by omega))) rfl
  refine ⟨_, xs_if_no (guard_ok (n := n) (k := 4) (by decide) hx hl hb) (xs_asg (ev_ret (k := 4) (n := n) (s_all_above hx hw) (Nat.le_refl _) (eps_cons ep_var eps_nil)) (xs_ret (env1 := [some (.d x), some (.d (dT ps)), none, some (.lst (oW (ab w))), none, none]) (ev_fn1 (ep_of (ev_compM (g := fun p => [O.d (.bool (decide (p.1 ∈ rw' (ab w) p.2.toNat)))]) hz rfl (fun p hp => ?_) ?_ rfl)) ?_))), rfl⟩
  · have m2 := (List.of_mem_zip hp).2
    have b := hb _ (List.mem_of_mem_drop m2)
    exact turn_all (env1 := [some (.d x), some (.d (dT ps)), none, some (.lst (oW (ab w))), some (oI p.1), some (oI p.2)]) rfl (ev_op2 (ep_var (i := 4) rfl) (ep_d (ix_oW (w := ab w) (i := 3) (j := 5) (z := p.2) rfl rfl b.1 (by omega))) (in_int (xs := rw' (ab w) p.2.toNat) p.1 rfl)) rfl
  · rw [flatMap_one, List.length_map, List.length_zip]
    exact small_size (by omega)
  · rw [flatMap_one, toD_map]
    exact all_map
theorem s_path_bad {x : D} {w : List (List Int)} (hx : Soft x w) (b : Bool) : Ret tab 3 15 [.d x, .d (.tuple [.bool b])] (oB false) := by
  refine ret_of (r := ir_is_path) rfl fun n => ?_
  exact ⟨_, xs_if_retB (guard_bad (n := n) (k := 2) (by decide) hx b), rfl⟩
/-! ### sets apart -/
def apartB (w : List (List Int)) (ps : List Int) : Bool := decide (ps = sset ps) && !(ps.any fun one => ps.any fun other => decide (one ∈ rw' (ab w) other.toNat))
theorem any_flat {α : Type} (q : α → List Bool) (xs : List α) : fnf .any [.d (O.toD (.lst (xs.flatMap fun p => (q p).flatMap fun b => [oB b])))] = some (oB (xs.any fun p => (q p).any id)) := by
  have e : (xs.flatMap fun p => (q p).flatMap fun b => [oB b]) = (xs.flatMap q).map oB := by
    induction xs with
    | nil => rfl
    | cons x xs ih => rw [List.flatMap_cons, List.flatMap_cons, List.map_append, ih, flatMap_one]
  rw [e, toD_map]
  show (match isBools ((xs.flatMap q).map PyData.bool) with
    | some bs => some (oBl (bs.any id))
    | none => none) = _
  rw [isBools_map]
  show some (oBl ((xs.flatMap q).any id)) = _
  rw [List.any_flatMap]
  rfl
theorem flat_len2 {α : Type} (q : α → List O) (m : Nat) (xs : List α) (h : ∀ x ∈ xs, (q x).length ≤ m) : (xs.flatMap q).length ≤ m * xs.length := by
  induction xs with
  | nil => exact Nat.zero_le _
  | cons x xs ih =>
    rw [List.flatMap_cons, List.length_append, List.length_cons]
    have := h x List.mem_cons_self
    have := ih fun y hy => h y (List.mem_cons_of_mem _ hy)
    rw [Nat.mul_add]
    omega
theorem s_apart {x : D} {w : List (List Int)} (hx : Soft x w) (hw : Web w) {ps : List Int} (hl : ps.length ≤ 300) (hb : ∀ a ∈ ps, 0 ≤ a ∧ a < w.length) : Ret tab 5 17 [.d x, .d (dT ps)] (oB (apartB w ps)) := by
  refine ret_of (r := ir_is_apart_set) rfl fun n => ?_
  have hal := ab_len w
  have hlen := hw.len
  have heq : EV (callF tab (n + 4)) (.op2 .eq (.var 1) (.call 4 [(.var 1)])) [some (.d x), some (.d (dT ps)), none, some (.lst (oW (ab w))), none, none] (oB (decide (ps = sset ps))) [some (.d x), some (.d (dT ps)), none, some (.lst (oW (ab w))), none, none] :=
    ev_op2 (ep_var (i := 1) rfl) (ep_d (ev_ret (k := 4) (n := n) (s_set_of (x := dT ps) ps rfl (by omega) (sset_small fun a ha => by have := hb a ha; omega)) (by decide) (eps_cons ep_var eps_nil))) (op_eq (dep2_r (depth_T _) (by decide)) (eqv_T _ _))
  have hcomp := ev_comp2M (C := callF tab (n + 4)) (elt := .op2 .isin (.var 4) (.op2 .ix (.var 3) (.var 5))) (tg := .name 4) (src := .seq (.var 1)) (cond := none) (tg1 := .name 5) (src1 := .seq (.var 1)) (cond1 := none) (vs := [4, 5]) (vs1 := [5]) (env := [some (.d x), some (.d (dT ps)), none, some (.lst (oW (ab w))), none, none])
    (xs := ps) (emb := fun i => Item.one (.int i)) (w := none) (g := fun one => ps.flatMap fun other => [oB (decide (one ∈ rw' (ab w) other.toNat))]) (es_rowD (i := 1) (x := dT ps) rfl rfl) rfl (fun one h1 => by
      exact turn2_all (env1 := [some (.d x), some (.d (dT ps)), none, some (.lst (oW (ab w))), some (oI one), none]) (ys := ps) (emb := fun i => Item.one (.int i)) (w := none) rfl (es_rowD (i := 1) (x := dT ps) rfl rfl) rfl (fun other h2 => by
        have b := hb other h2
        exact turn_all (env1 := [some (.d x), some (.d (dT ps)), none, some (.lst (oW (ab w))), some (oI one), some (oI other)]) rfl (ev_op2 (ep_var (i := 4) rfl) (ep_d (ix_oW (w := ab w) (i := 3) (j := 5) (z := other) rfl rfl b.1 (by omega))) (in_int (xs := rw' (ab w) other.toNat) one rfl)) rfl) rfl) (by
      have := flat_len2 (fun one => ps.flatMap fun other => [oB (decide (one ∈ rw' (ab w) other.toNat))]) 300 ps fun y _ => by rw [flatMap_one, List.length_map]; exact hl
      exact small_size (by omega)) rfl
  have hany : fnf .any [.d (O.toD (.lst (ps.flatMap fun one => ps.flatMap fun other => [oB (decide (one ∈ rw' (ab w) other.toNat))])))] = some (oB (ps.any fun one => ps.any fun other => decide (one ∈ rw' (ab w) other.toNat))) := by
    have := any_flat (fun one : Int => ps.map fun other => decide (one ∈ rw' (ab w) other.toNat)) ps
    have e : (ps.flatMap fun one => ps.flatMap fun other => [oB (decide (one ∈ rw' (ab w) other.toNat))]) = ps.flatMap fun one => (ps.map fun other => decide (one ∈ rw' (ab w) other.toNat)).flatMap fun b => [oB b] := by
      congr 1
      funext one
      rw [flatMap_one, flatMap_one, List.map_map]
      rfl
    rw [e, this]
    congr 3
    funext one
    rw [List.any_map]
    rfl
  exact ⟨_, xs_if_no (guard_ok (n := n) (k := 4) (by decide) hx (by omega) hb) (xs_asg (ev_ret (k := 4) (n := n) (s_all_above hx hw) (Nat.le_refl _) (eps_cons ep_var eps_nil)) (xs_ret (env1 := [some (.d x), some (.d (dT ps)), none, some (.lst (oW (ab w))), none, none]) (ev_andB heq fun _ => ev_not (ev_fn1 (ep_of hcomp) hany) rfl))), rfl⟩
theorem s_apart_bad {x : D} {w : List (List Int)} (hx : Soft x w) (b : Bool) : Ret tab 3 17 [.d x, .d (.tuple [.bool b])] (oB false) := by
  refine ret_of (r := ir_is_apart_set) rfl fun n => ?_
  exact ⟨_, xs_if_retB (guard_bad (n := n) (k := 2) (by decide) hx b), rfl⟩
/-! ### lots -/
def leI (a b : Int) : Bool := decide (a ≤ b)
theorem dataLe_int (a b : Int) : PySem.W.dataLe false id (.int a) (.int b) = leI a b := by
  show (!PySem.W.dataLt (.int b) (.int a)) = _
  rw [PySem.W.dataLt_int]
  unfold leI
  by_cases h : b < a
  · rw [decide_eq_true h, decide_eq_false (by omega)]
    rfl
  · rw [decide_eq_false h, decide_eq_true (by omega)]
    rfl
theorem dsort_int (xs : List Int) : dsort (xs.map .int) = (xs.mergeSort leI).map .int := by
  unfold dsort
  exact (List.map_mergeSort (r := leI) (s := PySem.W.dataLe false id) (f := PyData.int) fun a _ b _ => (dataLe_int a b).symm).symm
theorem sortB_int (xs : List Int) : sortB (xs.map .int) = true := by
  unfold sortB
  simp only [Bool.and_eq_true, Bool.or_eq_true]
  refine ⟨⟨?_, .inr ?_⟩, ?_⟩
  · unfold alikeB
    rw [List.all_map]
    refine List.all_eq_true.mpr fun p _ => ?_
    show (xs.map PyData.int).all _ = true
    rw [List.all_map]
    exact List.all_eq_true.mpr fun q _ => rfl
  · rw [List.all_map]
    exact List.all_eq_true.mpr fun p _ => rfl
  · rw [List.all_map]
    refine List.all_eq_true.mpr fun p _ => ?_
    show decide ((PyData.int p).depth ≤ 60) = true
    exact decide_eq_true (Nat.le_trans (depth_int p) (by decide))
theorem sorted_int {o : O} {xs : List Int} (h : asList o = some (xs.map .int)) : fnf .sorted [o] = some (.lst ((xs.mergeSort leI).map oI)) := by
  show (match asList o with
    | some xs => guardB (sortB xs) (some (mkL (dsort xs)))
    | none => none) = _
  rw [h]
  simp only [sortB_int, guardB, if_true, dsort_int]
  unfold mkL
  rw [List.map_map]
  rfl
def lotsB (w : List (List Int)) (L : List (List Int)) : Bool := L.all (apartB w) && decide ((L.flatMap id).mergeSort leI = upto w.length)
theorem s_is_lots {x : D} {w : List (List Int)} (hx : Soft x w) (hw : Web w) {L : List (List Int)} (hL : L.length ≤ 100) (hl : ∀ ps ∈ L, ps.length ≤ 300) (hb : ∀ ps ∈ L, ∀ a ∈ ps, 0 ≤ a ∧ a < w.length) : Ret tab 6 18 [.d x, .d (dW L)] (oB (lotsB w L)) := by
  refine ret_of (r := ir_is_lots) rfl fun n => ?_
  have hlen := hw.len
  have hsrc : ∀ v3 : Option O, semS (callF tab (n + 5)) (.seq (.var 1)) [some (.d x), some (.d (dW L)), none, v3] = some (((L.map fun r => Item.one (dT r)), none), [some (.d x), some (.d (dW L)), none, v3]) := fun v3 => by
    refine (es_varD (i := 1) (x := dW L) (env := [some (.d x), some (.d (dW L)), none, v3]) (xs := L.map dT) rfl rfl).trans ?_
    rw [List.map_map]
    rfl
  have hc := cA (C := callF tab (n + 5)) (env := [some (.d x), some (.d (dW L)), none, none]) (v := 2) (elt := .call 17 [(.var 0), (.var 2)]) (xs := L) (emb := dT) (f := fun ps => oB (apartB w ps)) (hsrc none) (fun ps hp => ev_ret (k := 5) (n := n) (s_apart hx hw (hl ps hp) (hb ps hp)) (Nat.le_refl _) (eps_cons (ep_var (i := 0) rfl) (eps_cons (ep_var (i := 2) rfl) eps_nil))) (by omega) rfl
  have hp := ep_of hc
  rw [toD_map (fun ps => PyData.bool (apartB w ps))] at hp
  have hall := all_map (p := apartB w) (xs := L)
  have hcond : ET (callF tab (n + 5)) (.or (.not (.isi (.var 1) .tuple)) (.not (.fn .all [(.comp (.call 17 [(.var 0), (.var 2)]) (.name 2) (.seq (.var 1)) none [2])]))) [some (.d x), some (.d (dW L)), none, none] (!(L.all (apartB w))) :=
    et_or (p := false) (et_not (p := true) (et_bl (ev_isi (ty := .tuple) ep_var rfl))) fun _ => et_not (et_bl (ev_fn1 hp hall))
  cases ha : L.all (apartB w) with
  | false =>
    rw [ha] at hcond
    have e0 : lotsB w L = false := by unfold lotsB; rw [ha]; rfl
    rw [e0]
    exact ⟨_, xs_if_retB hcond, rfl⟩
  | true =>
    rw [ha] at hcond
    have hcomp := ev_comp2M (C := callF tab (n + 5)) (elt := .var 3) (tg := .name 2) (src := .seq (.var 1)) (cond := none) (tg1 := .name 3) (src1 := .seq (.var 2)) (cond1 := none) (vs := [2, 3]) (vs1 := [3]) (env := [some (.d x), some (.d (dW L)), none, none])
      (xs := L) (emb := fun r => Item.one (dT r)) (w := none) (g := fun r => r.flatMap fun a => [oI a]) (hsrc none) rfl (fun r hr => turn2_all (env1 := [some (.d x), some (.d (dW L)), some (.d (dT r)), none]) (ys := r) (emb := fun i => Item.one (.int i)) (w := none) rfl (es_rowD (i := 2) (x := dT r) rfl rfl) rfl (fun a ha => turn_all rfl ev_var rfl) rfl) (by
        have := flat_len2 (fun r : List Int => r.flatMap fun a => [oI a]) 300 L fun y hy => by rw [flatMap_one, List.length_map]; exact hl y hy
        exact small_size (by omega)) rfl
    have e1 : (L.flatMap fun r => r.flatMap fun a => [oI a]) = (L.flatMap id).map oI := by
      rw [show (L.flatMap fun r => r.flatMap fun a => [oI a]) = L.flatMap fun r => (id r).flatMap fun a => [oI a] from rfl, flat_map2]
    rw [e1] at hcomp
    have hsort := ev_fn1 (f := .sorted) (ep_ints hcomp) (sorted_int (xs := L.flatMap id) rfl)
    have hrng : EV (callF tab (n + 5)) (.lrng1 (.fn .len [(.var 0)])) [some (.d x), some (.d (dW L)), none, none] (.lst ((upto w.length).map oI)) [some (.d x), some (.d (dW L)), none, none] := ev_lrng1 (ep_d (ev_fn1 (ep_var (i := 0) rfl) hx.len)) (lrng_upto hlen)
    refine ⟨_, xs_if_no hcond (xs_ret (o := oB (lotsB w L)) (env1 := [some (.d x), some (.d (dW L)), none, none]) ?_), rfl⟩
    have := ev_op2 (op := .eq) (ep_ints hsort) (ep_ints hrng) (op_eq (dep2_r (depth_L _) (by decide)) (eqv_L _ _))
    unfold lotsB
    rw [ha]
    exact this
/-! ### papers -/
theorem s_is_row {xs : List D} (m : Int) : Ret tab 1 2 [.d (.tuple xs), oI m] (oB (decide ((xs.length : Int) = m))) := by
  refine ret_of (r := ir_is_row) rfl fun n => ?_
  refine ⟨_, xs_ret (ev_andB (p := true) (ev_isi (ty := .tuple) ep_var rfl) fun _ => ev_op2 (x := oI (xs.length : Nat)) (ep_d (ev_fn1 (ep_var (i := 0) rfl) rfl)) (ep_var (i := 1) rfl) (eq_int _ m)), rfl⟩
theorem s_is_row_list {xs : List D} (m : Int) : Ret tab 1 2 [.d (.list xs), oI m] (oB false) := by
  refine ret_of (r := ir_is_row) rfl fun n => ?_
  refine ⟨_, xs_ret (ev_andB (p := false) (q := true) (ev_isi (ty := .list) ep_var rfl) fun z => by cases z), rfl⟩
theorem s_deep {x : D} {w : List (List Int)} (hx : Soft x w) (hw : Web w) {ps : List Int} (hl : ps.length ≤ 1000) (hb : ∀ a ∈ ps, 0 ≤ a ∧ a < w.length) {L : List (List Int)} (hL : L.length ≤ 100) (hLl : ∀ ps ∈ L, ps.length ≤ 300) (hLb : ∀ ps ∈ L, ∀ a ∈ ps, 0 ≤ a ∧ a < w.length) : Ret tab 7 22 [.d x, .d (.tuple [dT ps, dW L])] (oB (pathB w ps && (lotsB w L && decide ((ps.length : Int) = (L.length : Int))))) := by
  refine ret_of (r := ir_is_deep_paper) rfl fun n => ?_
  have i0 : EV (callF tab (n + 6)) (.op2 .ix (.var 1) (.cint 0)) [some (.d x), some (.d (.tuple [dT ps, dW L]))] (.d (dT ps)) [some (.d x), some (.d (.tuple [dT ps, dW L]))] := ev_op2 (ep_var (i := 1) rfl) (ep_d (e := .cint 0) rfl) rfl
  have i1 : EV (callF tab (n + 6)) (.op2 .ix (.var 1) (.cint 1)) [some (.d x), some (.d (.tuple [dT ps, dW L]))] (.d (dW L)) [some (.d x), some (.d (.tuple [dT ps, dW L]))] := ev_op2 (ep_var (i := 1) rfl) (ep_d (e := .cint 1) rfl) rfl
  have c0 : ET (callF tab (n + 6)) (.not (.call 2 [(.var 1), (.cint 2)])) [some (.d x), some (.d (.tuple [dT ps, dW L]))] false := et_not (p := true) (et_bl (ev_ret (k := 6) (n := n) (s_is_row 2) (by decide) (eps_cons (ep_var (i := 1) rfl) (eps_cons (ep_d (e := .cint 2) rfl) eps_nil))))
  have c1 : ET (callF tab (n + 6)) (.not (.call 15 [(.var 0), (.op2 .ix (.var 1) (.cint 0))])) [some (.d x), some (.d (.tuple [dT ps, dW L]))] (!pathB w ps) := et_not (et_bl (ev_ret (k := 6) (n := n) (s_is_path hx hw hl hb) (by decide) (eps_cons (ep_var (i := 0) rfl) (eps_cons (ep_d i0) eps_nil))))
  have c2 : ET (callF tab (n + 6)) (.not (.call 18 [(.var 0), (.op2 .ix (.var 1) (.cint 1))])) [some (.d x), some (.d (.tuple [dT ps, dW L]))] (!lotsB w L) := et_not (et_bl (ev_ret (k := 6) (n := n) (s_is_lots hx hw hL hLl hLb) (Nat.le_refl _) (eps_cons (ep_var (i := 0) rfl) (eps_cons (ep_d i1) eps_nil))))
  have hcond := et_or c0 fun _ => et_or c1 fun _ => c2
  cases h1 : pathB w ps with
  | false =>
    rw [h1] at hcond
    exact ⟨_, xs_if_retB hcond, rfl⟩
  | true =>
    rw [h1] at hcond
    cases h2 : lotsB w L with
    | false =>
      rw [h2] at hcond
      exact ⟨_, xs_if_retB hcond, rfl⟩
    | true =>
      rw [h2] at hcond
      exact ⟨_, xs_if_no hcond (xs_ret (ev_op2 (ep_d (ev_fn1 (ep_d i0) (len_map (f := PyData.int) (xs := ps) rfl))) (ep_d (ev_fn1 (ep_d i1) (len_map (f := dT) (xs := L) rfl))) (eq_int _ _))), rfl⟩
theorem s_deep_list {x : D} {xs : List D} : Ret tab 2 22 [.d x, .d (.list xs)] (oB false) := by
  refine ret_of (r := ir_is_deep_paper) rfl fun n => ?_
  exact ⟨_, xs_if_retB (et_or (p := true) (q := true) (et_not (p := false) (et_bl (ev_ret (k := 1) (n := n) (s_is_row_list 2) (by decide) (eps_cons (ep_var (i := 1) rfl) (eps_cons (ep_d (e := .cint 2) rfl) eps_nil))))) fun z => by cases z), rfl⟩
end W02
end

section
set_option Elab.async false
set_option linter.all false
set_option maxRecDepth 100000
/-! k02: the least longest path. -/
namespace W02
open PySem L2 PD WM

def here0 (w : List (List Int)) : List Int := pick w.length fun d => decide (at' (hgt w) d = dep w) && decide (at' (lev w) d = 1)
def nextH (w : List (List Int)) (a left : Int) : List Int := pick w.length fun d => decide (a ∈ rw' w d) && decide (at' (hgt w) d = left)
def stp (w : List (List Int)) : Nat → List Int × List Int
  | 0 => ([], here0 w)
  | l + 1 => ((stp w l).1 ++ [(stp w l).2.headD 0], nextH w ((stp w l).2.headD 0) (at' (hgt w) ((stp w l).2.headD 0).toNat - 1))
def dl (w : List (List Int)) : Nat := (dep w).toNat
def pathW (w : List (List Int)) : List Int := (stp w (dl w)).1
theorem pick_mem {n : Nat} {p : Nat → Bool} {x : Int} : x ∈ pick n p ↔ ∃ k : Nat, k < n ∧ p k = true ∧ x = (k : Int) := by
  unfold pick
  rw [List.mem_map]
  constructor
  · rintro ⟨k, hk, rfl⟩
    have := List.mem_filter.mp hk
    exact ⟨k, List.mem_range.mp this.1, this.2, rfl⟩
  · rintro ⟨k, hk, hp, rfl⟩
    exact ⟨k, List.mem_filter.mpr ⟨List.mem_range.mpr hk, hp⟩, rfl⟩
theorem pick_nil {n : Nat} {p : Nat → Bool} (h : ∀ k, k < n → p k = false) : pick n p = [] := by
  unfold pick
  rw [List.map_eq_nil_iff, List.filter_eq_nil_iff]
  intro k hk
  rw [h k (List.mem_range.mp hk)]
  decide
theorem head_mem {l : List Int} (h : l ≠ []) : l.headD 0 ∈ l := by
  cases l with
  | nil => exact absurd rfl h
  | cons x xs => exact List.mem_cons_self
theorem stp_len (w : List (List Int)) : ∀ l, (stp w l).1.length = l
  | 0 => rfl
  | l + 1 => by
    show ((stp w l).1 ++ [_]).length = l + 1
    rw [List.length_append, stp_len w l]
    rfl
section
variable {w : List (List Int)} (hw : Web w)
include hw
theorem dl_eq : ((dl w : Nat) : Int) = dep w := by
  have := dep_nn hw
  unfold dl
  omega
theorem stp_inv : ∀ l, l < dl w → (stp w l).2 ≠ [] ∧ ∀ h ∈ (stp w l).2, ∃ k : Nat, k < w.length ∧ h = (k : Int) ∧ at' (hgt w) k = dep w - l ∧ at' (lev w) k = l + 1 := by
  have hd := dl_eq hw
  intro l
  induction l with
  | zero =>
    intro h0
    obtain ⟨d, h1, h2, h3⟩ := top_ex hw (by omega)
    constructor
    · intro z
      have : (d : Int) ∈ here0 w := pick_mem.mpr ⟨d, h1, by simp [h2, h3], rfl⟩
      have z' : here0 w = [] := z
      rw [z'] at this
      cases this
    · intro h hm
      obtain ⟨k, hk, hp, rfl⟩ := pick_mem.mp hm
      simp only [Bool.and_eq_true, decide_eq_true_eq] at hp
      exact ⟨k, hk, rfl, by omega, by omega⟩
  | succ l ih =>
    intro hl
    obtain ⟨h1, h2⟩ := ih (by omega)
    obtain ⟨k, hk, e1, e2, e3⟩ := h2 _ (head_mem h1)
    constructor
    · obtain ⟨far, hf, hm, e4⟩ := hgt_up hw hk (by omega)
      intro z
      have : (far : Int) ∈ nextH w ((stp w l).2.headD 0) (at' (hgt w) ((stp w l).2.headD 0).toNat - 1) := pick_mem.mpr ⟨far, hf, by
        rw [e1, show ((k : Int)).toNat = k from rfl]
        simp only [Bool.and_eq_true, decide_eq_true_eq]
        exact ⟨hm, by omega⟩, rfl⟩
      have z' : nextH w ((stp w l).2.headD 0) (at' (hgt w) ((stp w l).2.headD 0).toNat - 1) = [] := z
      rw [z'] at this
      cases this
    · intro h hm
      obtain ⟨k', hk', hp, rfl⟩ := pick_mem.mp hm
      simp only [Bool.and_eq_true, decide_eq_true_eq] at hp
      rw [e1, show ((k : Int)).toNat = k from rfl] at hp
      have := lev_lt hw hk' hp.1
      rw [show ((k : Int)).toNat = k from rfl] at this
      have := lev_hgt' hw hk'
      exact ⟨k', hk', rfl, by omega, by omega⟩
theorem stp_end : (stp w (dl w)).2 = [] := by
  have hd := dl_eq hw
  cases h : dl w with
  | zero =>
    exact pick_nil fun k hk => by
      have := hgt_pos hw hk
      rw [decide_eq_false (show ¬ at' (hgt w) k = dep w by omega)]
      rfl
  | succ l =>
    obtain ⟨h1, h2⟩ := stp_inv hw l (by omega)
    obtain ⟨k, hk, e1, e2, e3⟩ := h2 _ (head_mem h1)
    refine pick_nil fun k' hk' => ?_
    have := hgt_pos hw hk'
    rw [e1, show ((k : Int)).toNat = k from rfl, decide_eq_false (show ¬ at' (hgt w) k' = at' (hgt w) k - 1 by omega), Bool.and_false]
theorem path_len : (pathW w).length = dl w := stp_len w _
theorem stp_at : ∀ l m, m < l → l ≤ dl w → at' (stp w l).1 m = (stp w m).2.headD 0
  | 0, m, h, _ => by omega
  | l + 1, m, h, hl => by
    show at' ((stp w l).1 ++ [(stp w l).2.headD 0]) m = _
    by_cases q : m < l
    · rw [← stp_at l m q (by omega)]
      unfold at'
      rw [List.getD_eq_getElem?_getD, List.getD_eq_getElem?_getD, List.getElem?_append_left (by rw [stp_len]; exact q)]
    · have : m = l := by omega
      subst this
      apply at_of
      rw [List.getElem?_append_right (by rw [stp_len]; exact Nat.le_refl _), stp_len, Nat.sub_self]
      rfl
theorem path_at {m : Nat} (h : m < dl w) : at' (pathW w) m = (stp w m).2.headD 0 := stp_at hw _ m h (Nat.le_refl _)
theorem path_in {m : Nat} (h : m < dl w) : ∃ k : Nat, k < w.length ∧ at' (pathW w) m = (k : Int) ∧ at' (hgt w) k = dep w - m ∧ at' (lev w) k = m + 1 := by
  obtain ⟨h1, h2⟩ := stp_inv hw m h
  rw [path_at hw h]
  exact h2 _ (head_mem h1)
theorem path_step {m : Nat} (h : m + 1 < dl w) : at' (pathW w) m ∈ rw' w (at' (pathW w) (m + 1)).toNat := by
  rw [path_at hw h, path_at hw (by omega)]
  obtain ⟨h1, _⟩ := stp_inv hw (m + 1) h
  have hm : (stp w (m + 1)).2.headD 0 ∈ nextH w ((stp w m).2.headD 0) (at' (hgt w) ((stp w m).2.headD 0).toNat - 1) := head_mem h1
  obtain ⟨k, hk, hp, e⟩ := pick_mem.mp hm
  rw [e, show ((k : Int)).toNat = k from rfl]
  simp only [Bool.and_eq_true, decide_eq_true_eq] at hp
  exact hp.1
theorem path_bd : ∀ a ∈ pathW w, 0 ≤ a ∧ a < w.length := fun a ha => by
  obtain ⟨m, hm⟩ := List.getElem?_of_mem ha
  have hml : m < dl w := by
    by_cases q : m < dl w
    · exact q
    · rw [List.getElem?_eq_none (by rw [path_len hw]; omega)] at hm; cases hm
  obtain ⟨k, hk, e, _⟩ := path_in hw hml
  rw [at_of hm] at e
  omega
end
/-- the law's own choice -/
def fitsB (w : List (List Int)) (path : List Int) (level : Int) (d : Nat) : Bool := decide (at' (lev w) d = level) && (decide (at' (hgt w) d = dep w + 1 - level) && (decide (path = []) || decide (path.getLastD 0 ∈ rw' w d)))
theorem fits_eq {w : List (List Int)} (hw : Web w) {l : Nat} (h : l < dl w) : pick w.length (fitsB w (stp w l).1 (1 + (l : Int))) = (stp w l).2 := by
  have hd := dl_eq hw
  cases l with
  | zero =>
    show pick _ _ = here0 w
    unfold here0 pick
    congr 1
    refine List.filter_congr fun d hdm => ?_
    unfold fitsB
    rw [Bool.eq_iff_iff]
    simp only [Bool.and_eq_true, Bool.or_eq_true, decide_eq_true_eq]
    show _ ∧ _ ∧ (([] : List Int) = [] ∨ _) ↔ _
    constructor
    · rintro ⟨h1, h2, _⟩
      exact ⟨by omega, by omega⟩
    · rintro ⟨h1, h2⟩
      exact ⟨by omega, by omega, .inl rfl⟩
  | succ l =>
    obtain ⟨h1, h2⟩ := stp_inv hw l (by omega)
    obtain ⟨k, hk, e1, e2, e3⟩ := h2 _ (head_mem h1)
    have elast : (stp w (l + 1)).1.getLastD 0 = (k : Int) := by
      show ((stp w l).1 ++ [(stp w l).2.headD 0]).getLastD 0 = _
      rw [e1]
      simp
    have enil : ¬ (stp w (l + 1)).1 = [] := by
      intro z
      have := stp_len w (l + 1)
      rw [z] at this
      cases this
    show pick _ _ = nextH w ((stp w l).2.headD 0) (at' (hgt w) ((stp w l).2.headD 0).toNat - 1)
    unfold nextH pick
    congr 1
    refine List.filter_congr fun d hdm => ?_
    have hdn := List.mem_range.mp hdm
    unfold fitsB
    rw [elast, decide_eq_false enil, e1, show ((k : Int)).toNat = k from rfl, Bool.eq_iff_iff]
    simp only [Bool.and_eq_true, Bool.or_eq_true, decide_eq_true_eq]
    constructor
    · rintro ⟨h1, h2, h3⟩
      rcases h3 with z | z
      · cases z
      · exact ⟨z, by omega⟩
    · rintro ⟨h1, h2⟩
      have := lev_lt hw hdn h1
      rw [show ((k : Int)).toNat = k from rfl] at this
      have := lev_hgt' hw hdn
      exact ⟨by omega, by omega, .inr h1⟩
/-! ### longest_path -/
theorem whl_steps {t : PD.Env → Option (Bool × PD.Env)} {f : PD.Env → Option Out} {E : Nat → Option O → PD.Env} {d : Nat} (h1 : ∀ l left, l < d → ∃ env1, t (E l left) = some (true, env1) ∧ ∃ left', f env1 = some (.nx (E (l + 1) left'))) (h2 : ∀ left, t (E d left) = some (false, E d left)) :
    ∀ (m l : Nat) (left : Option O) (N : Nat), d - l ≤ m → l ≤ d → m < N → ∃ left', whileL t f N (E l left) = some (.nx (E d left'))
  | m, l, left, 0, _, _, h => by omega
  | m, l, left, N + 1, hm, hl, hN => by
    by_cases q : l < d
    · obtain ⟨env1, e1, left', e2⟩ := h1 l left q
      obtain ⟨left2, e3⟩ := whl_steps h1 h2 (m - 1) (l + 1) left' N (by omega) (by omega) (by omega)
      refine ⟨left2, ?_⟩
      unfold whileL
      rw [e1]
      simp only
      rw [e2]
      exact e3
    · have : l = d := by omega
      subst this
      refine ⟨left, ?_⟩
      unfold whileL
      rw [h2]
theorem xs_whl {C : CallT} {bor : List Bool} {c : IE} {body ss : List IS} {env env1 : PD.Env} {out : Option Out} (h : whileL (evT C c) (exs C bor body) whileMost env = some (.nx env1)) (hr : exs C bor ss env1 = out) : exs C bor (.whl c body :: ss) env = out := by
  (conv => lhs; unfold exs)
  unfold ex
  rw [h]
  exact hr
theorem pick_oI (n : Nat) (p : Nat → Bool) : (pick n p).map oI = ((List.range n).filter p).map fun d => oI (d : Nat) := by
  unfold pick
  rw [List.map_map]
  rfl
theorem ix_first {C : CallT} {env : PD.Env} {i : Nat} {l : List Int} (h : look env i = some (.lst (l.map oI))) (hn : l ≠ []) : EV C (.op2 .ix (.var i) (.cint 0)) env (oI (l.headD 0)) env := by
  cases l with
  | nil => exact absurd rfl hn
  | cons x xs => exact ev_op2 (y := oI 0) (ep_own h (by rw [datas_map PyData.int]; rfl)) (ep_d rfl) (ix_nat (f := PyData.int) (xs := x :: xs) (k := 0) (asSeq_map PyData.int (x :: xs)) rfl rfl)
abbrev lpEnv (x : D) (w : List (List Int)) (found here : List Int) (left : Option O) : PD.Env := [some (.d x), some (.lst (found.map oI)), some (.lst ((hgt w).map oI)), some (.lst (here.map oI)), none, left, none]
abbrev lpBody : List IS := [.app 1 (.op2 .ix (.var 3) (.cint 0)),
    .asg 5 (.op2 .sub (.op2 .ix (.var 2) (.op2 .ix (.var 3) (.cint 0))) (.cint 1)),
    .asg 3 (.comp (.var 4) (.tup [4, 6]) (.enum (.var 0)) (some (.and (.op2 .isin (.op2 .ix (.var 3) (.cint 0)) (.var 6)) (.op2 .eq (.op2 .ix (.var 2) (.var 4)) (.var 5)))) [4, 6])]
theorem lp_body (C : CallT) {x : D} {w : List (List Int)} (hx : Soft x w) (hw : Web w) {found here : List Int} {left : Option O} (hn : here ≠ []) (h0 : 0 ≤ here.headD 0) (h1 : here.headD 0 < w.length) (hf : found.length ≤ 1000) : ∃ left', exs C [false] lpBody (lpEnv x w found here left) = some (.nx (lpEnv x w (found ++ [here.headD 0]) (nextH w (here.headD 0) (at' (hgt w) (here.headD 0).toNat - 1)) left')) := by
  have hlen := hw.len
  have hh := hgt_len w
  obtain ⟨yk, hs, hk⟩ := hx.at
  have f1 : EV C (.op2 .ix (.var 3) (.cint 0)) (lpEnv x w found here left) (oI (here.headD 0)) (lpEnv x w found here left) := ix_first rfl hn
  have f2 : EV C (.op2 .ix (.var 3) (.cint 0)) (lpEnv x w (found ++ [here.headD 0]) here left) (oI (here.headD 0)) (lpEnv x w (found ++ [here.headD 0]) here left) := ix_first rfl hn
  have f3 : EV C (.op2 .sub (.op2 .ix (.var 2) (.op2 .ix (.var 3) (.cint 0))) (.cint 1)) (lpEnv x w (found ++ [here.headD 0]) here left) (oI (at' (hgt w) (here.headD 0).toNat - 1)) (lpEnv x w (found ++ [here.headD 0]) here left) :=
    ev_op2 (ep_d (ix_int (l := hgt w) (ep_own (i := 2) (os := (hgt w).map oI) rfl (by rw [datas_map PyData.int]; rfl)) (ep_d f2) (asSeq_map PyData.int _) h0 (by omega))) (ep_d (e := .cint 1) rfl) (op_sub _ _)
  have f4 := ev_compM (C := C) (env := lpEnv x w (found ++ [here.headD 0]) here (some (oI (at' (hgt w) (here.headD 0).toNat - 1)))) (elt := .var 4) (tg := .tup [4, 6]) (src := .enum (.var 0)) (cond := some (.and (.op2 .isin (.op2 .ix (.var 3) (.cint 0)) (.var 6)) (.op2 .eq (.op2 .ix (.var 2) (.var 4)) (.var 5)))) (vs := [4, 6]) (xs := List.range w.length) (emb := fun k => Item.row [.int (k : Nat), yk k]) (w := none) (g := fun k => if (decide (here.headD 0 ∈ rw' w k) && decide (at' (hgt w) k = at' (hgt w) (here.headD 0).toNat - 1)) = true then [oI (k : Nat)] else []) (es_enumN (ev_var rfl) hs) rfl (fun k hk' => by
    have hk' := List.mem_range.mp hk'
    refine turn_if (env1 := [some (.d x), some (.lst ((found ++ [here.headD 0]).map oI)), some (.lst ((hgt w).map oI)), some (.lst (here.map oI)), some (oI (k : Nat)), some (oI (at' (hgt w) (here.headD 0).toNat - 1)), some (.d (yk k))]) rfl (et_and (et_bl (ev_op2 (ep_d (ix_first (i := 3) (l := here) rfl hn)) (ep_var (i := 6) rfl) (in_int (here.headD 0) (hk k hk').seq))) fun _ => et_bl (ev_op2 (ep_d (ix_int (l := hgt w) (z := (k : Nat)) (ep_own (i := 2) (os := (hgt w).map oI) rfl (by rw [datas_map PyData.int]; rfl)) (ep_var (i := 4) rfl) (asSeq_map PyData.int _) (by omega) (by omega))) (ep_var (i := 5) rfl) (eq_int _ _))) (fun _ => ev_var rfl) rfl) (pick_size (by omega)) rfl
  rw [flatMap_if (fun k => decide (here.headD 0 ∈ rw' w k) && decide (at' (hgt w) k = at' (hgt w) (here.headD 0).toNat - 1)) (fun k => oI (k : Nat)), ← pick_oI] at f4
  refine ⟨some (oI (at' (hgt w) (here.headD 0).toNat - 1)), ?_⟩
  refine xs_app (os := found.map oI) (os1 := found.map oI) rfl f1 rfl (by rw [List.length_map, sizeLine_eq]; omega) ?_
  have e : (found.map oI ++ [oI (here.headD 0)]) = (found ++ [here.headD 0]).map oI := snoc_map _ _ _
  rw [e]
  exact xs_asg f3 (xs_asg f4 xs_nil)
theorem s_longest {x : D} {w : List (List Int)} (hx : Soft x w) (hw : Web w) : Ret tab 6 14 [.d x] (.d (dT (pathW w))) := by
  refine ret_of (r := ir_longest_path) rfl fun n => ?_
  have hlen := hw.len
  have hh := hgt_len w
  have hl := lev_len w
  have hdd := dl_eq hw
  have hdl := dep_le hw
  have hpars : semVs (callF tab (n + 5)) [.lst [], .call 12 [(.var 0)]] [some (.d x), none, none, none, none, none, none] = some ([.lst [], .lst ((hgt w).map oI)], [some (.d x), none, none, none, none, none, none]) :=
    vs_cons (o := .lst []) rfl (vs_cons (ev_ret (k := 5) (n := n) (s_heights hx hw) (Nat.le_refl _) (eps_cons ep_var eps_nil)) vs_nil)
  have hhere : EV (callF tab (n + 5)) (.comp (.var 4) (.name 4) (.rng1 (.fn .len [(.var 0)])) (some (.and (.op2 .eq (.op2 .ix (.var 2) (.var 4)) (.call 13 [(.var 0)])) (.op2 .eq (.op2 .ix (.call 11 [(.var 0)]) (.var 4)) (.cint 1)))) [4]) [some (.d x), some (.lst []), some (.lst ((hgt w).map oI)), none, none, none, none] (.lst ((here0 w).map oI)) [some (.d x), some (.lst []), some (.lst ((hgt w).map oI)), none, none, none, none] := by
    unfold here0
    rw [pick_oI]
    refine cF (xs := List.range w.length) (emb := fun k : Nat => PyData.int (k : Nat)) (p := fun d => decide (at' (hgt w) d = dep w) && decide (at' (lev w) d = 1)) (f := fun d : Nat => oI (d : Nat)) (es_rngN (n := w.length) (ev_fn1 (ep_var (i := 0) rfl) hx.len) (by omega)) (fun d hd => ?_) (fun d hd _ => ev_var rfl) (by rw [List.length_range]; omega)
    have hd := List.mem_range.mp hd
    refine et_and (et_bl (ev_op2 (ep_d (ix_int (l := hgt w) (z := (d : Nat)) (ep_own (i := 2) (os := (hgt w).map oI) rfl (by rw [datas_map PyData.int]; rfl)) (ep_var (i := 4) rfl) (asSeq_map PyData.int _) (by omega) (by omega))) (ep_d (ev_ret (k := 5) (n := n) (s_depth hx hw) (Nat.le_refl _) (eps_cons (ep_var (i := 0) rfl) eps_nil))) (eq_int _ _))) fun _ => et_bl (ev_op2 (ep_d (ix_int (l := lev w) (z := (d : Nat)) (ep_ints (ev_ret (k := 5) (n := n) (s_levels hx hw) (by decide) (eps_cons (ep_var (i := 0) rfl) eps_nil))) (ep_var (i := 4) rfl) rfl (by omega) (by omega))) (ep_d (e := .cint 1) rfl) (eq_int _ _))
  have htest : ∀ (found here : List Int) (left : Option O), evT (callF tab (n + 5)) (.op2 .gt (.fn .len [(.var 3)]) (.cint 0)) (lpEnv x w found here left) = some (decide (0 < (here.length : Int)), lpEnv x w found here left) := fun found here left =>
    et_bl (ev_op2 (ep_d (ev_fn1 (ep_own (i := 3) (os := here.map oI) rfl (by rw [datas_map PyData.int]; rfl)) (len_map (asSeq_map PyData.int here)))) (ep_d (e := .cint 0) rfl) (op_gtI _ _))
  obtain ⟨left', hwl⟩ := whl_steps (t := evT (callF tab (n + 5)) (.op2 .gt (.fn .len [(.var 3)]) (.cint 0))) (f := exs (callF tab (n + 5)) [false] lpBody) (E := fun l left => lpEnv x w (stp w l).1 (stp w l).2 left) (d := dl w) (fun l left hl => by
    obtain ⟨i1, i2⟩ := stp_inv hw l hl
    obtain ⟨k, hk, e1, _⟩ := i2 _ (head_mem i1)
    obtain ⟨left', hb⟩ := lp_body (callF tab (n + 5)) (left := left) hx hw (found := (stp w l).1) (here := (stp w l).2) i1 (by omega) (by omega) (by rw [stp_len]; omega)
    refine ⟨_, ?_, left', hb⟩
    rw [htest, decide_eq_true]
    have : 0 < (stp w l).2.length := List.length_pos_iff.mpr i1
    omega) (fun left => by
    show evT _ _ (lpEnv x w (stp w (dl w)).1 (stp w (dl w)).2 left) = _
    rw [htest, stp_end hw]
    rfl) (dl w) 0 none whileMost (by omega) (Nat.zero_le _) (by unfold whileMost; omega)
  exact ⟨_, xs_pars hpars (xs_asg hhere (xs_whl hwl (xs_ret (tupOwn (i := 1) (ys := (stp w (dl w)).1) (g := PyData.int) rfl)))), rfl⟩
theorem s_paper {x : D} {w : List (List Int)} (hx : Soft x w) (hw : Web w) : Ret tab 7 23 [.d x] (.d (.tuple [dT (pathW w), dW (lotsW w)])) :=
  ret_of (r := ir_deep_paper) rfl fun n => ⟨_, xs_ret (ev_tup (ds_cons (ev_ret (k := 6) (n := n) (s_longest hx hw) (Nat.le_refl _) (eps_cons ep_var eps_nil)) (ds_cons (ev_ret (k := 6) (n := n) (s_lots hx hw) (Nat.le_refl _) (eps_cons ep_var eps_nil)) ds_nil)) (small_size (show 2 ≤ 100000 by decide))), rfl⟩
end W02
end

section
set_option Elab.async false
set_option linter.all false
set_option maxRecDepth 100000
/-! k02: the law's own path, its webs. -/
namespace W02
open PySem L2 PD WM

/-- the heights behind m rounds -/
def hm (w : List (List Int)) (m : Nat) : List Int := (List.range w.length).map fun d => if w.length ≤ m + d then at' (hgt w) d else 1
theorem hm_len (w : List (List Int)) (m : Nat) : (hm w m).length = w.length := by unfold hm; rw [List.length_map, List.length_range]
theorem hm_at {w : List (List Int)} {m d : Nat} (hd : d < w.length) : at' (hm w m) d = if w.length ≤ m + d then at' (hgt w) d else 1 := by
  apply at_of
  unfold hm
  rw [List.getElem?_map, List.getElem?_range hd]
  rfl
theorem hm_end (w : List (List Int)) : hm w w.length = hgt w := by
  refine int_ext (by rw [hm_len, hgt_len]) fun k hk => ?_
  rw [hm_len] at hk
  rw [hm_at hk, if_pos (by omega)]
theorem hm_step {w : List (List Int)} {m : Nat} (h : m < w.length) : (hm w m).set (w.length - 1 - m) (at' (hgt w) (w.length - 1 - m)) = hm w (m + 1) := by
  refine int_ext (by rw [List.length_set, hm_len, hm_len]) fun k hk => ?_
  rw [List.length_set, hm_len] at hk
  rw [hm_at hk]
  by_cases q : w.length - 1 - m = k
  · subst q
    rw [if_pos (by omega)]
    apply at_of
    rw [List.getElem?_set, if_pos rfl, if_pos (by rw [hm_len]; omega)]
  · have e : at' ((hm w m).set (w.length - 1 - m) (at' (hgt w) (w.length - 1 - m))) k = at' (hm w m) k := by
      unfold at'
      rw [List.getD_eq_getElem?_getD, List.getElem?_set, if_neg q, List.getD_eq_getElem?_getD]
    rw [e, hm_at hk]
    by_cases z : w.length ≤ m + k
    · rw [if_pos z, if_pos (by omega)]
    · rw [if_neg z, if_neg (by omega)]
theorem hm_rec {w : List (List Int)} (hw : Web w) {m : Nat} (h : m < w.length) : 1 + mx0 (((List.range w.length).filter fun far => decide (((w.length - 1 - m : Nat) : Int) ∈ rw' w far)).map fun far => at' (hm w m) far) = at' (hgt w) (w.length - 1 - m) := by
  rw [hgt_rec hw (by omega)]
  congr 2
  refine List.map_congr_left fun far hf => ?_
  have hf' := List.mem_filter.mp hf
  have hfl := List.mem_range.mp hf'.1
  have b := (hw.rowOk hfl).bd _ (of_decide_eq_true hf'.2)
  rw [hm_at hfl, if_pos (by omega)]
theorem rep_flat (n : Nat) : (List.replicate n [PyData.int 1]).flatten = List.replicate n (PyData.int 1) := by
  induction n with
  | zero => rfl
  | succ n ih =>
    rw [List.replicate_succ, List.replicate_succ, List.flatten_cons, ih]
    rfl
theorem op_rep1 {n : Nat} (h : n ≤ 60) : op2f .mul (.d (.list [.int 1])) (oI (n : Nat)) = some (.lst ((List.replicate n (1 : Int)).map oI)) := by
  have e0 : op2f .mul (.d (.list [.int 1])) (oI (n : Nat)) = guardB (decide (-(2 ^ 63) ≤ (n : Int)) && decide ((n : Int) < 2 ^ 63) && decide ([PyData.int 1].length * ((n : Int)).toNat ≤ sizeLine)) (some (mkL (List.replicate ((n : Int)).toNat [PyData.int 1]).flatten)) := rfl
  have h3 : [PyData.int 1].length * ((n : Int)).toNat ≤ sizeLine := by
    refine small_size ?_
    rw [List.length_singleton, Nat.one_mul, Int.toNat_natCast]
    omega
  rw [e0, decide_eq_true (show -(2 ^ 63) ≤ (n : Int) by omega), decide_eq_true (show (n : Int) < 2 ^ 63 by omega), decide_eq_true h3, Int.toNat_natCast, rep_flat]
  unfold mkL guardB
  rw [List.map_replicate, List.map_replicate]
  rfl
theorem rep_hm (w : List (List Int)) : List.replicate w.length (1 : Int) = hm w 0 := by
  refine int_ext (by rw [List.length_replicate, hm_len]) fun k hk => ?_
  rw [List.length_replicate] at hk
  rw [hm_at hk, if_neg (by omega)]
  apply at_of
  rw [List.getElem?_replicate, if_pos hk]
theorem opAdd_own0 (xs : List Int) (h : xs.length ≤ 1000) : op2f .add (.lst (xs.map oI)) (.d (.list [.int 0])) = some (.lst ((xs ++ [0]).map oI)) := by
  have := opAdd_own (xs.map PyData.int) [.int 0] (by rw [List.length_map]; simp; omega)
  rw [List.map_map, List.map_append, List.map_map] at this
  rw [List.map_append]
  exact this
theorem opAdd_l0 (xs : List Int) (h : xs.length ≤ 1000) : op2f .add (.d (dL xs)) (.d (.list [.int 0])) = some (.lst ((xs ++ [0]).map oI)) := by
  show guardB (decide ((xs.map PyData.int).length + [PyData.int 0].length ≤ sizeLine)) (some (mkL (xs.map PyData.int ++ [PyData.int 0]))) = _
  rw [decide_eq_true (small_size (show (xs.map PyData.int).length + [PyData.int 0].length ≤ 100000 by rw [List.length_map]; simp; omega))]
  show some (mkL (xs.map PyData.int ++ [PyData.int 0])) = _
  unfold mkL
  rw [List.map_append, List.map_map, List.map_append]
  rfl
theorem ev_l0 {C : CallT} {env : PD.Env} : EP C (.lst [.cint 0]) env (.d (.list [.int 0])) := by
  have := ep_of (C := C) (e := .lst [.cint 0]) (env := env) (o := .lst [oI 0]) (ev_lst (vs_cons (o := oI 0) rfl vs_nil) (small_size (show 1 ≤ 100000 by decide)))
  rw [show O.toD (.lst [oI 0]) = .list [.int 0] from toD_map PyData.int [0]] at this
  exact this
theorem ev_l1 {C : CallT} {env : PD.Env} : EP C (.lst [.cint 1]) env (.d (.list [.int 1])) := by
  have := ep_of (C := C) (e := .lst [.cint 1]) (env := env) (o := .lst [oI 1]) (ev_lst (vs_cons (o := oI 1) rfl vs_nil) (small_size (show 1 ≤ 100000 by decide)))
  rw [show O.toD (.lst [oI 1]) = .list [.int 1] from toD_map PyData.int [1]] at this
  exact this
theorem set_back {env : PD.Env} {v : Nat} {o : Option O} (hv : env[v]? = some o) : env.set v o = env := by
  apply List.ext_getElem?
  intro j
  rw [List.getElem?_set]
  by_cases h : v = j
  · subst h
    rw [if_pos rfl, hv]
    have : v < env.length := by
      by_cases q : v < env.length
      · exact q
      · rw [List.getElem?_eq_none (by omega)] at hv; cases hv
    rw [if_pos this]
  · rw [if_neg h]
theorem backg {env : PD.Env} {v : Nat} {o : Option O} (hv : env[v]? = some o) : back env (wipe env [v]) [v] = env := by
  show (env.set v none).set v (env[v]?).join = env
  rw [hv, List.set_set]
  exact set_back hv
theorem look_setg {env : PD.Env} {v : Nat} {o : Option O} (hv : env[v]? = some o) (q : O) : look (env.set v (some q)) v = some q := by
  unfold look
  rw [List.getElem?_set]
  have : v < env.length := by
    by_cases q : v < env.length
    · exact q
    · rw [List.getElem?_eq_none (by omega)] at hv; cases hv
  rw [if_pos rfl, if_pos this]
  rfl
/-- comprehensions whose variable stood before -/
theorem cFg {C : CallT} {env : PD.Env} {v : Nat} {elt c : IE} {α : Type} {src : Src} {xs : List α} {emb : α → D} {f : α → O} {p : α → Bool} {o : Option O} (hs : semS C src env = some (((xs.map fun a => Item.one (emb a)), none), env)) (hc : ∀ a ∈ xs, ET C c (env.set v (some (.d (emb a)))) (p a)) (he : ∀ a ∈ xs, p a = true → EV C elt (env.set v (some (.d (emb a)))) (f a) (env.set v (some (.d (emb a))))) (hl : xs.length ≤ 100000) (hv : env[v]? = some o := by rfl) : EV C (.comp elt (.name v) src (some c) [v]) env (.lst ((xs.filter p).map f)) env := by
  have := ev_compM (C := C) (env := env) (elt := elt) (tg := .name v) (src := src) (cond := some c) (vs := [v]) (xs := xs) (emb := fun a => Item.one (emb a)) (w := none) (g := fun a => if p a = true then [f a] else []) hs rfl (fun a ha => by
    refine turn_if (env1 := env.set v (some (.d (emb a)))) ?_ (hc a ha) (he a ha) ?_ (by show [v].contains v = true; simp)
    · show some ((env.set v none).set v (some (.d (emb a)))) = _
      rw [List.set_set]
    · show (env.set v (some (.d (emb a)))).set v none = env.set v none
      rw [List.set_set]) (by
    rw [flatMap_if, List.length_map]
    exact small_size (Nat.le_trans (List.length_filter_le ..) hl)) (backg hv)
  rw [flatMap_if] at this
  exact this
theorem cAg {C : CallT} {env : PD.Env} {v : Nat} {elt : IE} {α : Type} {src : Src} {xs : List α} {emb : α → D} {f : α → O} {o : Option O} (hs : semS C src env = some (((xs.map fun a => Item.one (emb a)), none), env)) (he : ∀ a ∈ xs, EV C elt (env.set v (some (.d (emb a)))) (f a) (env.set v (some (.d (emb a))))) (hl : xs.length ≤ 100000) (hv : env[v]? = some o := by rfl) : EV C (.comp elt (.name v) src none [v]) env (.lst (xs.map f)) env := by
  have := ev_compM (C := C) (env := env) (elt := elt) (tg := .name v) (src := src) (cond := none) (vs := [v]) (xs := xs) (emb := fun a => Item.one (emb a)) (w := none) (g := fun a => [f a]) hs rfl (fun a ha => by
    refine turn_all (env1 := env.set v (some (.d (emb a)))) ?_ (he a ha) ?_ (by show [v].contains v = true; simp)
    · show some ((env.set v none).set v (some (.d (emb a)))) = _
      rw [List.set_set]
    · show (env.set v (some (.d (emb a)))).set v none = env.set v none
      rw [List.set_set]) (by
    rw [flatMap_one, List.length_map]
    exact small_size hl) (backg hv)
  rw [flatMap_one] at this
  exact this
theorem es_rng3 {C : CallT} {e1 e2 e3 : IE} {env : PD.Env} {i j : Int} (h1 : EV C e1 env (oI i) env) (h2 : EV C e2 env (oI j) env) (h3 : EV C e3 env (oI (-1)) env) (hi : smallI i = true) (hj : smallI j = true) : semS C (.rng3 e1 e2 e3) env = some (((rngDn i j).map .one, none), env) := by
  show sRng3 _ _ _ env = _
  unfold sRng3
  rw [h1]
  simp only [h2, h3, guardB, hi, hj, Bool.and_self, decide_true, if_true]
abbrev bpE (w : List (List Int)) (high : List Int) (s4 s6 s7 s8 : Option O) : PD.Env := [some (.d (dW w)), some (.lst ((lev w).map oI)), some (oI (dep w)), some (.lst (high.map oI)), s4, none, s6, s7, s8]
abbrev bpB1 : List IS := [.setix 3 (.var 4) (.op2 .add (.cint 1) (.fn .max [(.op2 .add (.comp (.op2 .ix (.var 3) (.var 5)) (.name 5) (.rng1 (.fn .len [(.var 0)])) (some (.op2 .isin (.var 4) (.op2 .ix (.var 0) (.var 5)))) [5]) (.lst [(.cint 0)]))]))]
theorem bp_one (C : CallT) {w : List (List Int)} (hw : Web w) {m : Nat} (h : m < w.length) {s6 s7 s8 : Option O} : exs C [false, true] bpB1 (bpE w (hm w m) (some (oI ((w.length : Int) - 1 - (m : Nat)))) s6 s7 s8) = some (.nx (bpE w (hm w (m + 1)) (some (oI ((w.length : Int) - 1 - (m : Nat)))) s6 s7 s8)) := by
  have hlen := hw.len
  have hml := hm_len w m
  have ed : (w.length : Int) - 1 - (m : Nat) = ((w.length - 1 - m : Nat) : Int) := by omega
  rw [ed]
  have hcomp : EV C (.comp (.op2 .ix (.var 3) (.var 5)) (.name 5) (.rng1 (.fn .len [(.var 0)])) (some (.op2 .isin (.var 4) (.op2 .ix (.var 0) (.var 5)))) [5]) (bpE w (hm w m) (some (oI ((w.length - 1 - m : Nat) : Int))) s6 s7 s8) (.lst ((((List.range w.length).filter fun far => decide (((w.length - 1 - m : Nat) : Int) ∈ rw' w far)).map fun far => at' (hm w m) far).map oI)) (bpE w (hm w m) (some (oI ((w.length - 1 - m : Nat) : Int))) s6 s7 s8) := by
    rw [List.map_map]
    refine cF (xs := List.range w.length) (emb := fun k : Nat => PyData.int (k : Nat)) (p := fun far => decide (((w.length - 1 - m : Nat) : Int) ∈ rw' w far)) (f := fun far : Nat => oI (at' (hm w m) far)) (es_rngN (n := w.length) (ev_fn1 (ep_var (i := 0) rfl) (len_map (f := dT) (xs := w) rfl)) (by omega)) (fun d hd => ?_) (fun d hd _ => ?_) (by rw [List.length_range]; omega)
    · have hd := List.mem_range.mp hd
      exact et_bl (ev_op2 (ep_var (i := 4) rfl) (ep_d (ix_dW (xs := w) (i := 0) (j := 5) (z := (d : Nat)) rfl rfl rfl (by omega) (by omega))) (in_int (xs := rw' w d) _ rfl))
    · have hd := List.mem_range.mp hd
      exact ix_int (l := hm w m) (z := (d : Nat)) (ep_own (i := 3) (os := (hm w m).map oI) rfl (by rw [datas_map PyData.int]; rfl)) (ep_var (i := 5) rfl) (asSeq_map PyData.int _) (by omega) (by omega)
  have hmax := ev_fn1 (f := .max) (ep_ints (ev_op2 (op := .add) (ep_ints hcomp) ev_l0 (opAdd_l0 _ (by rw [List.length_map]; exact Nat.le_trans (List.length_filter_le ..) (by rw [List.length_range]; omega))))) (max_fn0 rfl fun x hx => by
    obtain ⟨far, hf, rfl⟩ := List.mem_map.mp hx
    have hfl := List.mem_range.mp (List.mem_filter.mp hf).1
    rw [hm_at hfl]
    have := hgt_pos hw hfl
    split <;> omega)
  have hval := ev_op2 (op := .add) (x := oI 1) (ep_d (e := .cint 1) rfl) (ep_d hmax) (op_addI _ _)
  rw [hm_rec hw h] at hval
  refine xs_setix (j := w.length - 1 - m) (z := ((w.length - 1 - m : Nat) : Int)) hval rfl (ev_var (i := 4) rfl) rfl ?_ ?_
  · unfold ixN
    rw [List.length_map, hml, if_pos (by omega), if_pos (by omega)]
    rfl
  · have e : ((hm w m).map oI).set (w.length - 1 - m) (oI (at' (hgt w) (w.length - 1 - m))) = (hm w (m + 1)).map oI := by
      rw [← hm_step h, List.map_set]
    show exs C _ [] (bpE w (hm w m) _ _ _ _ |>.set 3 (some (.lst (((hm w m).map oI).set (w.length - 1 - m) (oI (at' (hgt w) (w.length - 1 - m))))))) = _
    rw [e]
    exact xs_nil
abbrev bpB2 : List IS := [.asg 8 (.comp (.var 4) (.name 4) (.rng1 (.fn .len [(.var 0)])) (some (.and (.op2 .eq (.op2 .ix (.var 1) (.var 4)) (.var 7)) (.and (.op2 .eq (.op2 .ix (.var 3) (.var 4)) (.op2 .sub (.op2 .add (.var 2) (.cint 1)) (.var 7))) (.or (.op2 .eq (.var 6) (.tup [])) (.op2 .isin (.op2 .ix (.var 6) (.op1 .neg (.cint 1))) (.op2 .ix (.var 0) (.var 4))))))) [4]),
    .asg 6 (.op2 .add (.var 6) (.tup [(.op2 .ix (.var 8) (.cint 0))]))]
theorem eq_nilT (xs : List Int) : op2f .eq (.d (dT xs)) (.d (.tuple [])) = some (oB (decide (xs = []))) := op_eq (dep2_r (show (dT []).depth ≤ 1 from depth_T []) (by decide)) (eqv_T xs [])
theorem ix_lastT {C : CallT} {env : PD.Env} {i : Nat} {ys : List Int} (h : look env i = some (.d (dT ys))) (hn : ys ≠ []) : EV C (.op2 .ix (.var i) (.op1 .neg (.cint 1))) env (oI (ys.getLastD 0)) env := by
  refine ev_op2 (y := oI (-1)) (ep_var h) (ep_d (ev_neg (i := 1) (ep_d rfl))) ?_
  show (atI (ys.map PyData.int) (-1)).map O.d = _
  unfold atI
  have hl : 0 < ys.length := List.length_pos_iff.mpr hn
  have e : ixN (ys.map PyData.int).length (-1) = some (ys.length - 1) := by
    rw [List.length_map]
    unfold ixN
    rw [if_neg (by omega), if_pos (by omega)]
    congr 1
    omega
  rw [e]
  show ((ys.map PyData.int)[ys.length - 1]?).map O.d = _
  rw [List.getElem?_map, List.getElem?_eq_getElem (by omega), List.getLastD_eq_getLast?, List.getLast?_eq_getElem?, List.getElem?_eq_getElem (by omega)]
  rfl
theorem bp_two (C : CallT) {w : List (List Int)} (hw : Web w) {l : Nat} (h : l < dl w) {s4 s8 : Option O} : ∃ s8', exs C [false, true] bpB2 ((bpE w (hgt w) s4 (some (.d (dT (stp w l).1))) (some (oI (1 + (l : Nat)))) s8)) = some (.nx (bpE w (hgt w) s4 (some (.d (dT (stp w (l + 1)).1))) (some (oI (1 + (l : Nat)))) s8')) := by
  have hlen := hw.len
  have hh := hgt_len w
  have hl := lev_len w
  have hd := dl_eq hw
  have hdl := dep_le hw
  have hpl := stp_len w l
  generalize hpath : (stp w l).1 = path at hpl
  have hcomp : EV C (.comp (.var 4) (.name 4) (.rng1 (.fn .len [(.var 0)])) (some (.and (.op2 .eq (.op2 .ix (.var 1) (.var 4)) (.var 7)) (.and (.op2 .eq (.op2 .ix (.var 3) (.var 4)) (.op2 .sub (.op2 .add (.var 2) (.cint 1)) (.var 7))) (.or (.op2 .eq (.var 6) (.tup [])) (.op2 .isin (.op2 .ix (.var 6) (.op1 .neg (.cint 1))) (.op2 .ix (.var 0) (.var 4))))))) [4]) (bpE w (hgt w) s4 (some (.d (dT path))) (some (oI (1 + (l : Nat)))) s8) (.lst ((pick w.length (fitsB w path (1 + (l : Int)))).map oI)) (bpE w (hgt w) s4 (some (.d (dT path))) (some (oI (1 + (l : Nat)))) s8) := by
    rw [pick_oI]
    refine cFg (xs := List.range w.length) (emb := fun k : Nat => PyData.int (k : Nat)) (p := fitsB w path (1 + (l : Int))) (f := fun d : Nat => oI (d : Nat)) (es_rngN (n := w.length) (ev_fn1 (ep_var (i := 0) rfl) (len_map (f := dT) (xs := w) rfl)) (by omega)) (fun d hd => ?_) (fun d hd _ => ev_var rfl) (by rw [List.length_range]; omega)
    have hd := List.mem_range.mp hd
    refine et_and (et_bl (ev_op2 (ep_d (ix_int (l := lev w) (z := (d : Nat)) (ep_own (i := 1) (os := (lev w).map oI) rfl (by rw [datas_map PyData.int]; rfl)) (ep_var (i := 4) rfl) (asSeq_map PyData.int _) (by omega) (by omega))) (ep_var (i := 7) rfl) (eq_int _ _))) fun _ => ?_
    refine et_and (et_bl (ev_op2 (ep_d (ix_int (l := hgt w) (z := (d : Nat)) (ep_own (i := 3) (os := (hgt w).map oI) rfl (by rw [datas_map PyData.int]; rfl)) (ep_var (i := 4) rfl) (asSeq_map PyData.int _) (by omega) (by omega))) (ep_d (ev_op2 (ep_d (ev_op2 (ep_var (i := 2) rfl) (ep_d (e := .cint 1) rfl) (op_addI _ _))) (ep_var (i := 7) rfl) (op_sub _ _))) (eq_int _ _))) fun _ => ?_
    refine et_or (et_bl (ev_op2 (ep_var (i := 6) rfl) (ep_d (e := .tup []) rfl) (eq_nilT path))) fun hne => ?_
    exact et_bl (ev_op2 (ep_d (ix_lastT (i := 6) (ys := path) rfl (of_decide_eq_false hne))) (ep_d (ix_dW (xs := w) (i := 0) (j := 4) (z := (d : Nat)) rfl rfl rfl (by omega) (by omega))) (in_int (xs := rw' w d) _ rfl))
  rw [← hpath, fits_eq hw h, hpath] at hcomp
  obtain ⟨i1, i2⟩ := stp_inv hw l h
  have hfirst : EV C (.tup [(.op2 .ix (.var 8) (.cint 0))]) (bpE w (hgt w) s4 (some (.d (dT path))) (some (oI (1 + (l : Nat)))) (some (.lst ((stp w l).2.map oI)))) (.d (dT [(stp w l).2.headD 0])) (bpE w (hgt w) s4 (some (.d (dT path))) (some (oI (1 + (l : Nat)))) (some (.lst ((stp w l).2.map oI)))) := ev_tup (ds_cons (ix_first (i := 8) rfl i1) ds_nil) (small_size (show 1 ≤ 100000 by decide))
  refine ⟨some (.lst ((stp w l).2.map oI)), xs_asg hcomp (xs_asg (ev_op2 (op := .add) (ep_var (i := 6) rfl) (ep_d hfirst) (opAdd_TT _ _ (by simp; omega))) ?_)⟩
  have e : (stp w (l + 1)).1 = path ++ [(stp w l).2.headD 0] := by rw [← hpath]; rfl
  rw [e]
  exact xs_nil
theorem s_best {w : List (List Int)} (hw : Web w) (n : Nat) : callF tab (n + 1) 36 [.d (dW w), .lst ((lev w).map oI)] = some (.d (.tuple [dT (pathW w), dL (hgt w)]), [some (.d (dW w)), some (.lst ((lev w).map oI))]) := by
  have hlen := hw.len
  have hl := lev_len w
  have hd := dl_eq hw
  have hd0 := dep_nn hw
  have hdl := dep_le hw
  have a1 : EV (callF tab n) (.fn .max [(.op2 .add (.var 1) (.lst [(.cint 0)]))]) [some (.d (dW w)), some (.lst ((lev w).map oI)), none, none, none, none, none, none, none] (oI (dep w)) [some (.d (dW w)), some (.lst ((lev w).map oI)), none, none, none, none, none, none, none] :=
    ev_fn1 (ep_ints (ev_op2 (op := .add) (ep_own (i := 1) (os := (lev w).map oI) rfl (by rw [datas_map PyData.int]; rfl)) ev_l0 (opAdd_own0 _ (by omega)))) (max_fn0 rfl fun x hx => by
      obtain ⟨k, hk⟩ := List.getElem?_of_mem hx
      have hkl : k < w.length := by
        by_cases q : k < w.length
        · exact q
        · rw [List.getElem?_eq_none (by omega)] at hk; cases hk
      have := lev_pos hw hkl
      rw [at_of hk] at this
      omega)
  have a2 : EV (callF tab n) (.op2 .mul (.lst [(.cint 1)]) (.fn .len [(.var 0)])) [some (.d (dW w)), some (.lst ((lev w).map oI)), some (oI (dep w)), none, none, none, none, none, none] (.lst ((hm w 0).map oI)) [some (.d (dW w)), some (.lst ((lev w).map oI)), some (oI (dep w)), none, none, none, none, none, none] := by
    rw [← rep_hm]
    exact ev_op2 ev_l1 (ep_d (ev_fn1 (ep_var (i := 0) rfl) (len_map (f := dT) (xs := w) rfl))) (op_rep1 hlen)
  have hsub : EV (callF tab n) (.op2 .sub (.fn .len [(.var 0)]) (.cint 1)) (bpE w (hm w 0) none none none none) (oI ((w.length : Int) - 1)) (bpE w (hm w 0) none none none none) := ev_op2 (ep_d (ev_fn1 (ep_var (i := 0) rfl) (len_map (f := dT) (xs := w) rfl))) (ep_d (e := .cint 1) rfl) (op_sub _ _)
  have hneg : EV (callF tab n) (.op1 .neg (.cint 1)) (bpE w (hm w 0) none none none none) (oI (-1)) (bpE w (hm w 0) none none none none) := ev_neg (i := 1) (ep_d rfl)
  have hs1 : evSrcF (callF tab n) (.rng3 (.op2 .sub (.fn .len [(.var 0)]) (.cint 1)) (.op1 .neg (.cint 1)) (.op1 .neg (.cint 1))) (bpE w (hm w 0) none none none none) = some ((((List.range w.length).map fun k : Nat => Item.one (PyData.int ((w.length : Int) - 1 - (k : Nat)))), none), bpE w (hm w 0) none none none none) := by
    refine (es_rng3 hsub hneg hneg (by unfold smallI; simp only [Bool.and_eq_true, decide_eq_true_eq]; omega) (by decide)).trans ?_
    unfold rngDn
    rw [show ((w.length : Int) - 1 - (-1)).toNat = w.length from by omega, List.map_map]
    rfl
  obtain ⟨env1, h1, s4, rfl⟩ := for_inv (I := fun m env => ∃ s4, env = bpE w (hm w m) s4 none none none) (f := fun x e => match stTg (.name 4) x e with
      | some e1 => exs (callF tab n) [false, true] bpB1 e1
      | none => none) ((List.range w.length).map fun k : Nat => Item.one (PyData.int ((w.length : Int) - 1 - (k : Nat)))) 0 (bpE w (hm w 0) none none none none) ⟨none, rfl⟩ fun m it env hk hi => by
    rw [Nat.zero_add] at hi ⊢
    obtain ⟨s4, rfl⟩ := hi
    have hmc : m < w.length := by
      by_cases q : m < w.length
      · exact q
      · rw [List.getElem?_eq_none (by simpa using q)] at hk; cases hk
    rw [List.getElem?_map, List.getElem?_range hmc] at hk
    cases hk
    exact ⟨_, bp_one (callF tab n) hw hmc, _, rfl⟩
  rw [Nat.zero_add, List.length_map, List.length_range, hm_end] at h1
  have hs2 : evSrcF (callF tab n) (.rng2 (.cint 1) (.op2 .add (.var 2) (.cint 1))) (bpE w (hgt w) s4 (some (.d (dT (stp w 0).1))) none none) = some ((((List.range (dl w)).map fun m : Nat => Item.one (PyData.int (1 + (m : Nat)))), none), bpE w (hgt w) s4 (some (.d (dT (stp w 0).1))) none none) :=
    rng_lots (C := callF tab n) (a := .cint 1) (b := .op2 .add (.var 2) (.cint 1)) (env := bpE w (hgt w) s4 (some (.d (dT (stp w 0).1))) none none) hd0 (by omega) rfl (ev_op2 (ep_var (i := 2) rfl) (ep_d (e := .cint 1) rfl) (op_addI _ _))
  obtain ⟨env2, h2, s7, s8, rfl⟩ := for_inv (I := fun m env => ∃ s7 s8, env = bpE w (hgt w) s4 (some (.d (dT (stp w m).1))) s7 s8) (f := fun x e => match stTg (.name 7) x e with
      | some e1 => exs (callF tab n) [false, true] bpB2 e1
      | none => none) ((List.range (dl w)).map fun m : Nat => Item.one (PyData.int (1 + (m : Nat)))) 0 (bpE w (hgt w) s4 (some (.d (dT (stp w 0).1))) none none) ⟨none, none, rfl⟩ fun m it env hk hi => by
    rw [Nat.zero_add] at hi ⊢
    obtain ⟨s7, s8, rfl⟩ := hi
    have hmc : m < dl w := by
      by_cases q : m < dl w
      · exact q
      · rw [List.getElem?_eq_none (by simpa using q)] at hk; cases hk
    rw [List.getElem?_map, List.getElem?_range hmc] at hk
    cases hk
    obtain ⟨s8', hb⟩ := bp_two (callF tab n) hw hmc (s4 := s4) (s8 := s8)
    exact ⟨_, hb, _, _, rfl⟩
  rw [Nat.zero_add, List.length_map, List.length_range] at h2
  have v3 := ev_own (C := callF tab n) (i := 3) (env := bpE w (hgt w) s4 (some (.d (dT (stp w (dl w)).1))) s7 s8) (os := (hgt w).map oI) rfl
  have hret := ev_tup (ds_cons (ev_var (C := callF tab n) (i := 6) (env := bpE w (hgt w) s4 (some (.d (dT (stp w (dl w)).1))) s7 s8) rfl) (ds_cons v3 ds_nil)) (small_size (show 2 ≤ 100000 by decide))
  rw [toD_map PyData.int, toD_dd] at hret
  exact call_rt (n := n) (r := ir__law_best_path) (env := [some (.d (dW w)), some (.lst ((lev w).map oI)), some (oI (dep w)), some (.d (dL (hgt w))), s4, none, some (.d (dT (stp w (dl w)).1)), s7, s8]) rfl (xs_asg a1 (xs_asg a2 (xs_for hs1 h1 (xs_asg (o := .d (dT [])) rfl (xs_for hs2 h2 (xs_ret hret))))))
end W02
end

section
set_option Elab.async false
set_option linter.all false
set_option maxRecDepth 100000
/-! k02: the law's own webs. -/
namespace W02
open PySem L2 PD WM

abbrev tE (many : Int) (web : List (List Int)) (rows deed : Int) (row near : Option O) (a b c : Int) : PD.Env := [some (oU a b c), some (oI many), some (.lst (oW web)), some (oI rows), some (oI deed), row, near]
theorem draw_row {C : CallT} {many rows deed : Int} {web : List (List Int)} {row : Option O} {src : Src} {cond : IE} (P : Int → Prop) {xs : List Int} {a b c : Int} {m : Nat} (hu : UrnOk a b c (m + xs.length)) (hx : xs.length ≤ 1000)
    (hs : semS C src (tE many web rows deed row none a b c) = some (((xs.map fun x => Item.one (.int x)), none), tE many web rows deed row none a b c))
    (hc : ∀ x ∈ xs, ∀ a b c m, UrnOk a b c (m + 1) → ∃ k a' c', (k = true → P x) ∧ UrnOk a' b c' m ∧ (sem C cond).t (tE many web rows deed row (some (oI x)) a b c) = some (k, tE many web rows deed row (some (oI x)) a' b c')) :
    ∃ (ys : List Int) (a' c' : Int), ys.Sublist xs ∧ (∀ y ∈ ys, P y) ∧ UrnOk a' b c' m ∧ EV C (.comp (.var 6) (.name 6) src (some cond) [6]) (tE many web rows deed row none a b c) (.lst (ys.map oI)) (tE many web rows deed row none a' b c') := by
  obtain ⟨ys, a', c', h1, h2, h3, h4⟩ := draw_loopP (f := turn1 (.name 6) (semC C (some cond)) (sem C (.var 6)).v [6]) (E := tE many web rows deed row none) P xs a b c m hu fun x hx a b c m hu => by
    obtain ⟨k, a', c', hp, h1, h2⟩ := hc x hx a b c m hu
    refine ⟨k, a', c', hp, h1, ?_⟩
    unfold turn1
    show guardB true (match (sem C cond).t (tE many web rows deed row (some (oI x)) a b c) with
      | some (true, e2) => match (sem C (.var 6)).v e2 with
        | some (o, e3) => some ([o], wipe e3 [6])
        | none => none
      | some (false, e2) => some ([], wipe e2 [6])
      | none => none) = _
    rw [h2]
    cases k <;> rfl
  refine ⟨ys, a', c', h1, h2, h3, ?_⟩
  show vComp _ _ _ _ = _
  unfold vComp
  rw [hs]
  simp only
  rw [show wipe (tE many web rows deed row none a b c) [6] = tE many web rows deed row none a b c from rfl]
  have := h1.length_le
  rw [show semC C (some cond) = semC C (some cond) from rfl, h4]
  simp only [guardB]
  rw [decide_eq_true (show (ys.map oI).length ≤ sizeLine by rw [List.length_map]; exact small_size (by omega))]
  rfl
theorem ev_iteT {C : CallT} {c a b : IE} {env env1 env2 : PD.Env} {k : Bool} {o : O} (hc : (sem C c).t env = some (k, env1)) (ha : k = true → EV C a env1 o env2) (hb : k = false → EV C b env1 o env2) : EV C (.ite c a b) env o env2 := by
  show vIte _ _ _ env = _
  unfold vIte
  rw [hc]
  cases k with
  | true => exact ha rfl
  | false => exact hb rfl
theorem s_lsetL (n : Nat) (xs : List Int) (h1 : xs.length + 1 < 4096) (h2 : (sset xs).length < 64) : callF tab (n + 1) 31 [.lst (xs.map oI)] = some (.d (dT (sset xs)), [some (.lst (xs.map oI))]) := by
  have hl : EV (callF tab n) (.fn .list [.var 0]) [some (.lst (xs.map oI))] (.lst (xs.map oI)) [some (.lst (xs.map oI))] := listOwn (i := 0) (ys := xs) (g := PyData.int) rfl
  refine call_rt (n := n) (r := ir__law_set) (env := [some (.lst (xs.map oI))]) rfl (xs_ret (ev_fn1 (ep_of (ev_fn1 (ep_ints hl) (sset_fn rfl h1 h2))) ?_))
  rw [toD_map]
  exact tuple_map
theorem opAdd_LI (xs ys : List Int) (h : xs.length + ys.length ≤ 1000) : op2f .add (.lst (xs.map oI)) (.d (dL ys)) = some (.lst ((xs ++ ys).map oI)) := by
  have := opAdd_own (xs.map PyData.int) (ys.map PyData.int) (by rw [List.length_map, List.length_map]; omega)
  rw [List.map_map, List.map_append, List.map_map, List.map_map] at this
  rw [List.map_append]
  exact this
abbrev tlS1 : IS := .asg 5 (.ite (.and (.op2 .ge (.var 4) (.var 3)) (.op2 .gt (.call 26 [(.var 0), (.cint 8)]) (.cint 0))) (.lst [(.op2 .sub (.var 4) (.var 3))]) (.lst []))
abbrev tlS2 : IS := .asg 5 (.op2 .add (.var 5) (.comp (.var 6) (.name 6) (.rng2 (.fn .max2 [(.cint 0), (.op2 .sub (.var 4) (.op2 .mul (.cint 2) (.var 3)))]) (.var 4)) (some (.op2 .eq (.call 26 [(.var 0), (.cint 9)]) (.cint 0))) [6]))
theorem tl_row (n : Nat) {many rows : Int} (r0 : 1 ≤ rows) (r1 : rows ≤ 6) {k : Nat} (hk : k ≤ 60) {web : List (List Int)} {row : Option O} {a b c : Int} {m : Nat} (hu : UrnOk a b c (m + 61)) : ∃ (ys : List Int) (a' c' : Int), (∀ y ∈ ys, 0 ≤ y ∧ y < (k : Int)) ∧ ys.length ≤ 62 ∧ UrnOk a' b c' m ∧ ∀ (ss : List IS) (out : Option Out), exs (callF tab (n + 1)) [true, false] ss (tE many web rows k (some (.lst (ys.map oI))) none a' b c') = out → exs (callF tab (n + 1)) [true, false] (tlS1 :: tlS2 :: ss) (tE many web rows k row none a b c) = out := by
  -- the first thing
  have first : ∃ (fs : List Int) (a1 c1 : Int), (∀ y ∈ fs, 0 ≤ y ∧ y < (k : Int)) ∧ fs.length ≤ 1 ∧ UrnOk a1 b c1 (m + 60) ∧ EV (callF tab (n + 1)) (.ite (.and (.op2 .ge (.var 4) (.var 3)) (.op2 .gt (.call 26 [(.var 0), (.cint 8)]) (.cint 0))) (.lst [(.op2 .sub (.var 4) (.var 3))]) (.lst [])) (tE many web rows k row none a b c) (.lst (fs.map oI)) (tE many web rows k row none a1 b c1) := by
    have hge : (sem (callF tab (n + 1)) (.op2 .ge (.var 4) (.var 3))).t (tE many web rows k row none a b c) = some (decide (rows ≤ (k : Int)), tE many web rows k row none a b c) := et_bl (ev_op2 (ep_var (i := 4) rfl) (ep_var (i := 3) rfl) rfl)
    by_cases hx : rows ≤ (k : Int)
    · obtain ⟨q, a1, c1, h1, h2⟩ := draw_gt (n := n) (k := 1) (Nat.le_refl _) (env := tE many web rows k row none) (fun _ _ _ => rfl) (fun _ _ _ _ _ => rfl) 8 (by decide) (by decide) (m := m + 60) hu
      have ht : (sem (callF tab (n + 1)) (.and (.op2 .ge (.var 4) (.var 3)) (.op2 .gt (.call 26 [(.var 0), (.cint 8)]) (.cint 0)))).t (tE many web rows k row none a b c) = some (q, tE many web rows k row none a1 b c1) := by
        show tAndM _ _ _ = _
        unfold tAndM
        rw [hge, decide_eq_true hx]
        exact et_gen h2
      cases q with
      | true =>
        refine ⟨[(k : Int) - rows], a1, c1, fun y hy => ?_, by simp, h1, ev_iteT ht (fun _ => ev_lst (vs_cons (ev_op2 (ep_var (i := 4) rfl) (ep_var (i := 3) rfl) (op_sub _ _)) vs_nil) (small_size (show 1 ≤ 100000 by decide))) (fun z => by cases z)⟩
        rw [List.mem_singleton.mp hy]
        omega
      | false => exact ⟨[], a1, c1, fun y hy => absurd hy List.not_mem_nil, by simp, h1, ev_iteT ht (fun z => by cases z) (fun _ => rfl)⟩
    · have ht : (sem (callF tab (n + 1)) (.and (.op2 .ge (.var 4) (.var 3)) (.op2 .gt (.call 26 [(.var 0), (.cint 8)]) (.cint 0)))).t (tE many web rows k row none a b c) = some (false, tE many web rows k row none a b c) := by
        show tAndM _ _ _ = _
        unfold tAndM
        rw [hge, decide_eq_false hx]
      exact ⟨[], a, c, fun y hy => absurd hy List.not_mem_nil, by simp, hu.less (by omega), ev_iteT ht (fun z => by cases z) (fun _ => rfl)⟩
  obtain ⟨fs, a1, c1, hfb, hfl, hu1, hf⟩ := first
  -- the others
  have hlow : EV (callF tab (n + 1)) (.op2 .sub (.var 4) (.op2 .mul (.cint 2) (.var 3))) (tE many web rows k (some (.lst (fs.map oI))) none a1 b c1) (oI ((k : Int) - 2 * rows)) (tE many web rows k (some (.lst (fs.map oI))) none a1 b c1) := ev_op2 (ep_var (i := 4) rfl) (ep_d (ev_op2 (ep_d (e := .cint 2) rfl) (ep_var (i := 3) rfl) (op_mulB (.inl (by decide))))) (op_sub _ _)
  have hs : semS (callF tab (n + 1)) (.rng2 (.fn .max2 [(.cint 0), (.op2 .sub (.var 4) (.op2 .mul (.cint 2) (.var 3)))]) (.var 4)) (tE many web rows k (some (.lst (fs.map oI))) none a1 b c1) = some (((((List.range ((k : Int) - (if (k : Int) - 2 * rows > 0 then (k : Int) - 2 * rows else 0)).toNat).map fun j => (if (k : Int) - 2 * rows > 0 then (k : Int) - 2 * rows else 0) + (j : Nat)).map fun x => Item.one (.int x)), none), tE many web rows k (some (.lst (fs.map oI))) none a1 b c1) := by
    refine (es_rng2 (l := if (k : Int) - 2 * rows > 0 then (k : Int) - 2 * rows else 0) (j := (k : Int)) (ev_fn (f := .max2) (os := [oI 0, oI ((k : Int) - 2 * rows)]) (eps_cons (ep_d (e := .cint 0) rfl) (eps_cons (ep_d hlow) eps_nil)) rfl) (ev_var (i := 4) rfl) ?_ (smallI_nat (by omega))).trans ?_
    · unfold smallI
      simp only [Bool.and_eq_true, decide_eq_true_eq]
      split <;> omega
    · unfold rngV
      rw [List.map_map, List.map_map]
      rfl
  obtain ⟨ys, a', c', h1, h2, h3, h4⟩ := draw_row (C := callF tab (n + 1)) (cond := .op2 .eq (.call 26 [(.var 0), (.cint 9)]) (.cint 0)) (m := m) (fun _ => True) (hu1.less (by rw [List.length_map, List.length_range]; split <;> omega)) (by rw [List.length_map, List.length_range]; split <;> omega) hs fun x _ a b c m hu => by
    obtain ⟨q, a', c', h1, h2⟩ := draw_eq (n := n) (k := 1) (Nat.le_refl _) (env := tE many web rows k (some (.lst (fs.map oI))) (some (oI x))) (fun _ _ _ => rfl) (fun _ _ _ _ _ => rfl) 9 (by decide) (by decide) hu
    exact ⟨q, a', c', fun _ => trivial, h1, et_gen h2⟩
  have hyl : ys.length ≤ 60 := by
    have := h1.length_le
    rw [List.length_map, List.length_range] at this
    split at this <;> omega
  have hyb : ∀ y ∈ ys, 0 ≤ y ∧ y < (k : Int) := fun y hy => by
    obtain ⟨j, hj, rfl⟩ := List.mem_map.mp (h1.subset hy)
    have := List.mem_range.mp hj
    by_cases q : (k : Int) - 2 * rows > 0
    · rw [if_pos q] at this ⊢; omega
    · rw [if_neg q] at this ⊢; omega
  refine ⟨fs ++ ys, a', c', fun y hy => (List.mem_append.mp hy).elim (hfb y) (hyb y), by rw [List.length_append]; omega, h3, fun ss out h => ?_⟩
  refine xs_asg hf (xs_asg (ev_op2F (p := .slot 5) (x := .lst (fs.map oI)) (y := .lst (ys.map oI)) (pv_own (i := 5) (os := fs.map oI) rfl (by rw [datas_map PyData.int]; rfl)) h4 rfl ?_) h)
  rw [toD_map PyData.int]
  exact opAdd_LI _ _ (by omega)
theorem rowok_set {k : Nat} {ys : List Int} (h : ∀ y ∈ ys, 0 ≤ y ∧ y < (k : Int)) : RowOk k (sset ys) := ⟨sset_lt ys, fun a ha => h a ((sset_mem ys a).mp ha)⟩
theorem s_tall (n : Nat) {a b c : Int} {m : Nat} (N : Nat) (hN : N ≤ 60) (h : UrnOk a b c (m + 3661)) : ∃ (w : List (List Int)) (a' c' : Int) (f : Option O), Web w ∧ w.length = N ∧ UrnOk a' b c' m ∧ callF tab (n + 2) 35 [oU a b c, oI (N : Nat)] = some (.d (dW w), [some (oU a' b c'), f]) := by
  obtain ⟨j, a0, c0, j0, j1, hu0, ht⟩ := take_ok (m := m + 3660) h (low := 6) (by decide) (by decide)
  have htake := ev_take (n := n) (k := 1) (i := 0) (e := .cint 6) (env := [some (oU a b c), some (oI (N : Nat)), none, none, none, none, none]) ht (Nat.le_refl _) rfl (ep_d rfl)
  have hrows : EV (callF tab (n + 1)) (.op2 .add (.cint 1) (.call 26 [(.var 0), (.cint 6)])) [some (oU a b c), some (oI (N : Nat)), none, none, none, none, none] (oI (1 + j)) [some (oU a0 b c0), some (oI (N : Nat)), none, none, none, none, none] := ev_op2F (p := .val (.int 1)) (x := oI 1) (y := oI j) rfl htake rfl (op_addI 1 j)
  have hs : evSrcF (callF tab (n + 1)) (.rng1 (.var 1)) [some (oU a0 b c0), some (oI (N : Nat)), some (.lst []), some (oI (1 + j)), none, none, none] = some ((((List.range N).map fun k => Item.one (.int (k : Nat))), none), [some (oU a0 b c0), some (oI (N : Nat)), some (.lst []), some (oI (1 + j)), none, none, none]) :=
    es_rngN (C := callF tab (n + 1)) (n := N) (e := .var 1) (env := [some (oU a0 b c0), some (oI (N : Nat)), some (.lst []), some (oI (1 + j)), none, none, none]) (ev_var rfl) (by omega)
  obtain ⟨env1, h1, a1, c1, web, deed, row, hu, hok, hwl, rfl⟩ := for_inv (I := fun k env => ∃ (a' c' : Int) (web : List (List Int)) (deed row : Option O), UrnOk a' b c' (m + 3660 - 61 * k) ∧ rowsOk web ∧ web.length = k ∧ env = [some (oU a' b c'), some (oI (N : Nat)), some (.lst (oW web)), some (oI (1 + j)), deed, row, none]) (f := fun x e => match stTg (.name 4) x e with
      | some e1 => exs (callF tab (n + 1)) [true, false] [tlS1, tlS2, .app 2 (.call 31 [(.var 5)])] e1
      | none => none) ((List.range N).map fun k => Item.one (.int (k : Nat))) 0 [some (oU a0 b c0), some (oI (N : Nat)), some (.lst []), some (oI (1 + j)), none, none, none] ⟨a0, c0, [], none, none, hu0, (show rowsOk [] from fun k r hr => by cases k <;> cases hr), rfl, rfl⟩ fun k it env hk hi => by
    rw [Nat.zero_add] at hi ⊢
    obtain ⟨a1, c1, web, deed, row, hu, hok, hwl, rfl⟩ := hi
    have hkc : k < N := by
      by_cases q : k < N
      · exact q
      · rw [List.getElem?_eq_none (by simpa using q)] at hk; cases hk
    rw [List.getElem?_map, List.getElem?_range hkc] at hk
    cases hk
    obtain ⟨ys, a2, c2, hr, hyl, hu2, hx⟩ := tl_row n (many := (N : Nat)) (rows := 1 + j) (by omega) (by omega) (k := k) (by omega) (web := web) (row := row) (m := m + 3660 - 61 * (k + 1)) (hu.less (by omega))
    refine ⟨[some (oU a2 b c2), some (oI (N : Nat)), some (.lst (oW (web ++ [sset ys]))), some (oI (1 + j)), some (oI (k : Nat)), some (.lst (ys.map oI)), none], ?_, a2, c2, web ++ [sset ys], _, _, hu2, rowsOk_snoc hok (hwl ▸ rowok_set hr), by rw [List.length_append, List.length_singleton, hwl], rfl⟩
    show exs (callF tab (n + 1)) [true, false] [tlS1, tlS2, .app 2 (.call 31 [(.var 5)])] (tE (N : Nat) web (1 + j) (k : Nat) row none a1 b c1) = _
    have hcall : EV (callF tab (n + 1)) (.call 31 [(.var 5)]) (tE (N : Nat) web (1 + j) (k : Nat) (some (.lst (ys.map oI))) none a2 b c2) (.d (dT (sset ys))) (tE (N : Nat) web (1 + j) (k : Nat) (some (.lst (ys.map oI))) none a2 b c2) := by
      refine ev_callL (ps := [.slot 5]) (os := [.lst (ys.map oI)]) (env1 := tE (N : Nat) web (1 + j) (k : Nat) (some (.lst (ys.map oI))) none a2 b c2) ?_ rfl rfl (s_lsetL n ys (by omega) (sset_small fun y hy => by have := hr y hy; omega)) rfl rfl
      have := pv_own (C := callF tab (n + 1)) (i := 5) (env := tE (N : Nat) web (1 + j) (k : Nat) (some (.lst (ys.map oI))) none a2 b c2) (os := ys.map oI) rfl (by rw [datas_map PyData.int]; rfl)
      show mCons (sem (callF tab (n + 1)) (.var 5)).p mNil _ = _
      unfold mCons
      rw [this]
      rfl
    have hl : (oW web).length < sizeLine := by rw [List.length_map, sizeLine_eq]; omega
    have e : oW (web ++ [sset ys]) = oW web ++ [.d (dT (sset ys))] := (snoc_map (fun r => O.d (dT r)) web (sset ys)).symm
    refine hx _ _ ?_
    rw [e]
    refine xs_app (os := oW web) (os1 := oW web) (o := .d (dT (sset ys))) (env1 := tE (N : Nat) web (1 + j) (k : Nat) (some (.lst (ys.map oI))) none a2 b c2) rfl hcall rfl hl ?_
    exact xs_nil
  rw [Nat.zero_add, List.length_map, List.length_range] at hu hwl
  refine ⟨web, a1, c1, some (oI (N : Nat)), ⟨by omega, hok⟩, hwl, hu.less (by omega), ?_⟩
  refine call_rt (n := n + 1) (r := ir__law_tall) (env := [some (oU a1 b c1), some (oI (N : Nat)), some (.lst (oW web)), some (oI (1 + j)), deed, row, none]) rfl (xs_pars (os := [.lst [], oI (1 + j)]) (env1 := [some (oU a0 b c0), some (oI (N : Nat)), none, none, none, none, none]) (vs_cons (o := .lst []) rfl (vs_cons hrows vs_nil)) (xs_for hs h1 (xs_ret (tupOwn (i := 2) (ys := web) (g := dT) rfl))))
end W02
end

section
set_option Elab.async false
set_option linter.all false
set_option maxRecDepth 100000
/-! k02: plain mathematics of lots, sets apart, paths. -/
namespace W02
open PD WM

theorem sset_self {xs : List Int} (h : xs.Pairwise (· < ·)) : sset xs = xs := asc_ext _ _ (sset_lt xs) h fun a => sset_mem xs a
theorem sset_iff {xs : List Int} : xs = sset xs ↔ xs.Pairwise (· < ·) := ⟨fun h => h ▸ sset_lt xs, fun h => (sset_self h).symm⟩
/-- no two of them ahead of one another -/
def Apart (w : List (List Int)) (ps : List Int) : Prop := ∀ one ∈ ps, ∀ other ∈ ps, ¬ one ∈ rw' (ab w) other.toNat
theorem apartB_iff {w : List (List Int)} {ps : List Int} : apartB w ps = true ↔ ps.Pairwise (· < ·) ∧ Apart w ps := by
  unfold apartB
  rw [Bool.and_eq_true, decide_eq_true_iff, sset_iff]
  refine and_congr_right fun _ => ?_
  rw [Bool.not_eq_true', ← Bool.not_eq_true, List.any_eq_true]
  constructor
  · intro h one h1 other h2 z
    exact h ⟨one, h1, List.any_eq_true.mpr ⟨other, h2, decide_eq_true z⟩⟩
  · rintro h ⟨one, h1, h2⟩
    obtain ⟨other, h3, h4⟩ := List.any_eq_true.mp h2
    exact h one h1 other h3 (of_decide_eq_true h4)
/-- the law's own test -/
def lapart (w : List (List Int)) (ps : List Int) : Bool := decide ((ps.filter fun far => !decide ((ps.filter fun near => decide (near ∈ rw' (ab w) far.toNat)) = [])) = [])
theorem lapart_iff {w : List (List Int)} {ps : List Int} : lapart w ps = true ↔ Apart w ps := by
  unfold lapart
  rw [decide_eq_true_iff, List.filter_eq_nil_iff]
  constructor
  · intro h one h1 other h2 z
    refine h other h2 ?_
    rw [Bool.not_eq_true', decide_eq_false_iff_not]
    intro e
    exact List.filter_eq_nil_iff.mp e one h1 (decide_eq_true z)
  · intro h far hf z
    rw [Bool.not_eq_true', decide_eq_false_iff_not] at z
    refine z (List.filter_eq_nil_iff.mpr fun near hn z2 => h near hn far hf (of_decide_eq_true z2))
theorem lapart_eq {w : List (List Int)} {ps : List Int} (h : ps.Pairwise (· < ·)) : lapart w ps = apartB w ps := by
  rw [Bool.eq_iff_iff, lapart_iff, apartB_iff]
  exact ⟨fun z => ⟨h, z⟩, fun z => z.2⟩
theorem apart_rev {w : List (List Int)} {ps : List Int} (h : ps.Pairwise (· < ·)) (hn : ps ≠ []) : apartB w ps.reverse = (lapart w ps && decide ((ps.length : Int) = 1)) := by
  rw [Bool.eq_iff_iff, apartB_iff, Bool.and_eq_true, lapart_iff, decide_eq_true_iff]
  match ps, h, hn with
  | [x], _, _ =>
    constructor
    · rintro ⟨_, h2⟩
      exact ⟨h2, rfl⟩
    · rintro ⟨h1, _⟩
      exact ⟨List.pairwise_singleton _ _, h1⟩
  | x :: y :: r, h, _ =>
    constructor
    · rintro ⟨h1, _⟩
      rw [List.pairwise_reverse] at h1
      have := (List.pairwise_cons.mp h).1 y List.mem_cons_self
      have := (List.pairwise_cons.mp h1).1 y List.mem_cons_self
      omega
    · rintro ⟨_, h2⟩
      rw [List.length_cons, List.length_cons] at h2
      omega
/-! ### paths -/
theorem pathB_iff {w : List (List Int)} {ps : List Int} : pathB w ps = true ↔ ∀ m, m + 1 < ps.length → at' ps m ∈ rw' (ab w) (at' ps (m + 1)).toNat := by
  unfold pathB
  rw [List.all_eq_true]
  constructor
  · intro h m hm
    have : (ps.zip (ps.drop 1))[m]? = some (at' ps m, at' ps (m + 1)) := List.getElem?_zip_eq_some.mpr ⟨at_some (by omega), by rw [List.getElem?_drop, Nat.add_comm]; exact at_some hm⟩
    exact of_decide_eq_true (h _ (List.mem_of_getElem? this))
  · intro h p hp
    obtain ⟨m, hm⟩ := List.getElem?_of_mem hp
    obtain ⟨h1, h2⟩ := List.getElem?_zip_eq_some.mp hm
    rw [List.getElem?_drop, Nat.add_comm] at h2
    have hl : m + 1 < ps.length := by
      by_cases q : m + 1 < ps.length
      · exact q
      · rw [List.getElem?_eq_none (by omega)] at h2; cases h2
    have := h m hl
    rw [at_of h1, at_of h2] at this
    exact decide_eq_true this
theorem path_path {w : List (List Int)} (hw : Web w) : pathB w (pathW w) = true := by
  rw [pathB_iff]
  intro m hm
  rw [path_len hw] at hm
  obtain ⟨k, hk, e, _⟩ := path_in hw hm
  have := path_step hw hm
  rw [e] at this ⊢
  exact sub_ab hw hk this
theorem evens_at : ∀ (l : List Int) (m : Nat), at' (evens l) m = at' l (2 * m) ∨ (evens l).length ≤ m
  | [], m => .inr (Nat.zero_le _)
  | [x], 0 => .inl rfl
  | [x], m + 1 => .inr (by show 1 ≤ m + 1; omega)
  | x :: y :: r, 0 => .inl rfl
  | x :: y :: r, m + 1 => by
    rcases evens_at r m with h | h
    · refine .inl ?_
      show at' (x :: evens r) (m + 1) = at' (x :: y :: r) (2 * (m + 1))
      have e1 : at' (x :: evens r) (m + 1) = at' (evens r) m := rfl
      have e2 : at' (x :: y :: r) (2 * (m + 1)) = at' r (2 * m) := rfl
      rw [e1, e2, h]
    · refine .inr ?_
      show (x :: evens r).length ≤ m + 1
      rw [List.length_cons]
      omega
theorem evens_lt : ∀ (l : List Int), 2 * (evens l).length ≤ l.length + 1
  | [] => by show 0 ≤ 1; omega
  | [x] => by show 2 ≤ 2; omega
  | x :: y :: r => by
    have := evens_lt r
    show 2 * (x :: evens r).length ≤ _
    rw [List.length_cons, List.length_cons, List.length_cons]
    omega
theorem evens_mem : ∀ (l : List Int) (x : Int), x ∈ evens l → x ∈ l
  | [], x, h => h
  | [y], x, h => h
  | y :: z :: r, x, h => by
    have h : x ∈ y :: evens r := h
    rcases List.mem_cons.mp h with e | e
    · rw [e]; exact List.mem_cons_self
    · exact List.mem_cons_of_mem _ (List.mem_cons_of_mem _ (evens_mem r x e))
theorem path_evens {w : List (List Int)} (hw : Web w) {ps : List Int} (hb : ∀ a ∈ ps, 0 ≤ a ∧ a < w.length) (h : pathB w ps = true) : pathB w (evens ps) = true := by
  rw [pathB_iff] at h ⊢
  intro m hm
  have hl := evens_lt ps
  have e1 : at' (evens ps) m = at' ps (2 * m) := (evens_at ps m).resolve_right (by omega)
  have e2 : at' (evens ps) (m + 1) = at' ps (2 * (m + 1)) := (evens_at ps (m + 1)).resolve_right (by omega)
  rw [e1, e2]
  have h1 := h (2 * m) (by omega)
  have h2 := h (2 * m + 1) (by omega)
  have b := hb _ (List.mem_of_getElem? (at_some (l := ps) (k := 2 * (m + 1)) (by omega)))
  have e3 : 2 * m + 1 + 1 = 2 * (m + 1) := by omega
  rw [e3] at h2
  exact ab_trans hw _ (by omega) _ _ h2 h1
theorem path_twice {w : List (List Int)} (hw : Web w) {ps : List Int} (hb : ∀ a ∈ ps, 0 ≤ a ∧ a < w.length) (hn : ps ≠ []) : pathB w (ps ++ [ps.getLastD 0]) = false := by
  refine Bool.eq_false_iff.mpr fun h => ?_
  rw [pathB_iff] at h
  have hl : 0 < ps.length := List.length_pos_iff.mpr hn
  have elast : at' ps (ps.length - 1) = ps.getLastD 0 := by
    apply at_of
    rw [List.getLastD_eq_getLast?, List.getLast?_eq_getElem?, List.getElem?_eq_getElem (by omega)]
    rfl
  have h1 := h (ps.length - 1) (by rw [List.length_append, List.length_singleton]; omega)
  have e1 : at' (ps ++ [ps.getLastD 0]) (ps.length - 1) = ps.getLastD 0 := by
    rw [← elast]
    unfold at'
    rw [List.getD_eq_getElem?_getD, List.getD_eq_getElem?_getD, List.getElem?_append_left (by omega)]
  have e2 : at' (ps ++ [ps.getLastD 0]) (ps.length - 1 + 1) = ps.getLastD 0 := by
    apply at_of
    rw [List.getElem?_append_right (by omega), show ps.length - 1 + 1 - ps.length = 0 from by omega]
    rfl
  rw [e1, e2] at h1
  have b := hb (ps.getLastD 0) (by rw [← elast]; exact List.mem_of_getElem? (at_some (by omega)))
  have := ab_bd hw (k := (ps.getLastD 0).toNat) (by omega) h1
  omega
def lrow (w : List (List Int)) (ps : List Int) : Bool := decide (((ps.zip (ps.drop 1)).filter fun p => !decide (p.1 ∈ rw' (ab w) p.2.toNat)) = [])
theorem lrow_eq (w : List (List Int)) (ps : List Int) : lrow w ps = pathB w ps := by
  unfold lrow pathB
  rw [Bool.eq_iff_iff, decide_eq_true_iff, List.filter_eq_nil_iff, List.all_eq_true]
  refine forall_congr' fun p => imp_congr_right fun _ => ?_
  simp
/-! ### lots -/
theorem leI_iff (a b : Int) : leI a b = true ↔ a ≤ b := by unfold leI; exact decide_eq_true_iff
theorem leI_trans (a b c : Int) (h1 : leI a b = true) (h2 : leI b c = true) : leI a c = true := by rw [leI_iff] at h1 h2 ⊢; omega
theorem leI_total (a b : Int) : (leI a b || leI b a) = true := by
  rw [Bool.or_eq_true, leI_iff, leI_iff]
  omega
theorem upto_lt (n : Nat) : (upto n).Pairwise (· < ·) := by
  unfold upto
  rw [List.pairwise_map]
  exact List.pairwise_lt_range.imp fun {a b} h => by omega
theorem mem_upto {n : Nat} {x : Int} : x ∈ upto n ↔ 0 ≤ x ∧ x < n := by
  refine ⟨upto_mem, fun h => List.mem_map.mpr ⟨x.toNat, List.mem_range.mpr (by omega), by omega⟩⟩
/-- each number below n in exactly one lot -/
structure LotsOk (n : Nat) (L : List (List Int)) : Prop where
  nd : (L.flatMap id).Nodup
  mem : ∀ x, x ∈ L.flatMap id ↔ 0 ≤ x ∧ x < n
theorem sort_upto {n : Nat} {L : List (List Int)} (h : LotsOk n L) : (L.flatMap id).mergeSort leI = upto n := by
  have hp : (L.flatMap id).Perm (upto n) := (List.perm_ext_iff_of_nodup h.nd (upto_nodup n)).mpr fun x => (h.mem x).trans mem_upto.symm
  refine List.Perm.eq_of_pairwise (le := fun p q => leI p q = true) (fun a b _ _ h1 h2 => ?_) (List.pairwise_mergeSort leI_trans leI_total _) ((upto_lt n).imp fun {a b} h => (leI_iff a b).mpr (by omega)) ((List.mergeSort_perm _ leI).trans hp)
  rw [leI_iff] at h1 h2
  omega
theorem lots_true {w : List (List Int)} {L : List (List Int)} (h : LotsOk w.length L) (ha : ∀ ps ∈ L, ps.Pairwise (· < ·) ∧ Apart w ps) : lotsB w L = true := by
  unfold lotsB
  rw [Bool.and_eq_true]
  exact ⟨List.all_eq_true.mpr fun ps hp => apartB_iff.mpr (ha ps hp), decide_eq_true (sort_upto h)⟩
theorem lots_nd {w : List (List Int)} {L : List (List Int)} (h : ¬ (L.flatMap id).Nodup) : lotsB w L = false := by
  refine Bool.eq_false_iff.mpr fun z => h ?_
  unfold lotsB at z
  rw [Bool.and_eq_true, decide_eq_true_iff] at z
  have := List.mergeSort_perm (L.flatMap id) leI
  rw [z.2] at this
  exact this.nodup_iff.mp (upto_nodup _)
/-- lots by a number of each deed -/
def byNum (n : Nat) (f : Nat → Int) (g : Nat → Int) (d : Nat) : List (List Int) := (List.range d).map fun m => pick n fun k => decide (f k = g m)
theorem byNum_ok {n d : Nat} {f g : Nat → Int} (hg : ∀ a b, a < b → b < d → g a ≠ g b) (hf : ∀ k, k < n → ∃ m, m < d ∧ f k = g m) : LotsOk n (byNum n f g d) := by
  constructor
  · unfold byNum List.Nodup
    rw [List.flatMap_map, List.pairwise_flatMap]
    constructor
    · intro m _
      show List.Pairwise _ (pick n _)
      unfold pick
      rw [List.pairwise_map]
      exact (List.pairwise_lt_range.filter _).imp fun {a b} h e => by omega
    · refine List.Pairwise.imp_of_mem ?_ List.pairwise_lt_range
      intro a b _ hb h x hx y hy e
      obtain ⟨k, hk, h1, rfl⟩ := pick_mem.mp (show x ∈ pick n _ from hx)
      obtain ⟨k2, hk2, h2, rfl⟩ := pick_mem.mp (show y ∈ pick n _ from hy)
      have : k = k2 := by omega
      subst this
      exact hg a b h (List.mem_range.mp hb) ((of_decide_eq_true h1).symm.trans (of_decide_eq_true h2))
  · intro x
    unfold byNum
    rw [List.flatMap_map, List.mem_flatMap]
    constructor
    · rintro ⟨m, _, hx⟩
      obtain ⟨k, hk, _, rfl⟩ := pick_mem.mp (show x ∈ pick n _ from hx)
      omega
    · intro h
      obtain ⟨m, hm, e⟩ := hf x.toNat (by omega)
      exact ⟨m, List.mem_range.mpr hm, pick_mem.mpr ⟨x.toNat, by omega, decide_eq_true e, by omega⟩⟩
theorem pick_lt (n : Nat) (p : Nat → Bool) : (pick n p).Pairwise (· < ·) := by
  unfold pick
  rw [List.pairwise_map]
  exact (List.pairwise_lt_range.filter _).imp fun {a b} h => by omega
theorem byNum_apart {w : List (List Int)} (hw : Web w) {d : Nat} {f g : Nat → Int} (hf : ∀ k, k < w.length → ∀ near ∈ rw' (ab w) k, f near.toNat ≠ f k) : ∀ ps ∈ byNum w.length f g d, ps.Pairwise (· < ·) ∧ Apart w ps := by
  intro ps hp
  obtain ⟨m, _, rfl⟩ := List.mem_map.mp hp
  refine ⟨pick_lt _ _, fun one h1 other h2 z => ?_⟩
  obtain ⟨k, hk, e1, rfl⟩ := pick_mem.mp h1
  obtain ⟨k2, hk2, e2, rfl⟩ := pick_mem.mp h2
  rw [show ((k2 : Int)).toNat = k2 from rfl] at z
  have := hf k2 hk2 _ z
  rw [show ((k : Int)).toNat = k from rfl] at this
  exact this ((of_decide_eq_true e1).trans (of_decide_eq_true e2).symm)
/-- ahead: less of level, more of height -/
theorem ab_lev {w : List (List Int)} (hw : Web w) : ∀ k, k < w.length → ∀ near ∈ rw' (ab w) k, at' (lev w) near.toNat < at' (lev w) k ∧ at' (hgt w) k < at' (hgt w) near.toNat := by
  intro k
  induction k using Nat.strongRecOn with
  | ind k ih =>
    intro hk near hn
    rcases (mem_ab hw hk near).mp hn with h | ⟨m, hm, h⟩
    · have b := (hw.rowOk hk).bd near h
      have l := lev_lt hw hk h
      have g := hgt_lt hw (d := near.toNat) hk (by rw [show ((near.toNat : Nat) : Int) = near from by omega]; exact h)
      omega
    · have b := (hw.rowOk hk).bd m hm
      have := ih m.toNat (by omega) (by omega) near h
      have l := lev_lt hw hk hm
      have g := hgt_lt hw (d := m.toNat) hk (by rw [show ((m.toNat : Nat) : Int) = m from by omega]; exact hm)
      omega
def lateW (w : List (List Int)) : List (List Int) := byNum w.length (fun k => at' (hgt w) k) (fun m => dep w - (m : Nat)) (dl w)
theorem lotsW_by (w : List (List Int)) : lotsW w = byNum w.length (fun k => at' (lev w) k) (fun m => 1 + (m : Nat)) (dl w) := rfl
section
variable {w : List (List Int)} (hw : Web w)
include hw
theorem lots_ok : LotsOk w.length (lotsW w) := by
  have hd := dl_eq hw
  rw [lotsW_by]
  refine byNum_ok (fun a b h _ => by omega) fun k hk => ?_
  have := lev_pos hw hk
  have := lev_le hw hk
  exact ⟨(at' (lev w) k - 1).toNat, by omega, by omega⟩
theorem lots_ap : ∀ ps ∈ lotsW w, ps.Pairwise (· < ·) ∧ Apart w ps := by
  rw [lotsW_by]
  exact byNum_apart hw fun k hk near hn => by have := ab_lev hw k hk near hn; omega
theorem late_ok : LotsOk w.length (lateW w) := by
  have hd := dl_eq hw
  refine byNum_ok (fun a b h _ => by omega) fun k hk => ?_
  have := hgt_pos hw hk
  have := lev_pos hw hk
  have := lev_hgt' hw hk
  exact ⟨(dep w - at' (hgt w) k).toNat, by omega, by omega⟩
theorem late_ap : ∀ ps ∈ lateW w, ps.Pairwise (· < ·) ∧ Apart w ps := byNum_apart hw fun k hk near hn => by have := ab_lev hw k hk near hn; omega
end
theorem byNum_len (n d : Nat) (f g : Nat → Int) : (byNum n f g d).length = d := by unfold byNum; rw [List.length_map, List.length_range]
/-! ### one deed elsewhere -/
def movedRow (L : List (List Int)) (deed place : Int) (at0 : Nat) : List Int := sset (((rw' L at0).filter fun far => !decide (far = deed)) ++ if decide ((at0 : Int) = place) = true then [deed] else [])
def movedW (L : List (List Int)) (deed place : Int) : List (List Int) := (List.range L.length).map (movedRow L deed place)
theorem movedRow_mem {L : List (List Int)} {deed place : Int} {a : Nat} {x : Int} : x ∈ movedRow L deed place a ↔ (x ∈ rw' L a ∧ x ≠ deed) ∨ ((a : Int) = place ∧ x = deed) := by
  unfold movedRow
  rw [sset_mem, List.mem_append, List.mem_filter]
  refine or_congr ?_ ?_
  · simp
  · by_cases h : (a : Int) = place
    · rw [decide_eq_true h, if_pos rfl, List.mem_singleton]
      exact ⟨fun z => ⟨h, z⟩, fun z => z.2⟩
    · rw [decide_eq_false h, if_neg (by decide)]
      exact ⟨fun z => absurd z List.not_mem_nil, fun z => absurd z.1 h⟩
theorem flat_at {L : List (List Int)} {x : Int} : x ∈ L.flatMap id ↔ ∃ a, a < L.length ∧ x ∈ rw' L a := by
  rw [List.mem_flatMap]
  constructor
  · rintro ⟨ps, hp, hx⟩
    obtain ⟨a, ha⟩ := List.getElem?_of_mem hp
    have hal : a < L.length := by
      by_cases q : a < L.length
      · exact q
      · rw [List.getElem?_eq_none (by omega)] at ha; cases ha
    exact ⟨a, hal, by rw [rw_some ha]; exact hx⟩
  · rintro ⟨a, ha, hx⟩
    exact ⟨_, List.mem_of_getElem? (get_some ha), hx⟩
theorem row_uniq {L : List (List Int)} (h : (L.flatMap id).Nodup) {a b : Nat} (ha : a < L.length) (hb : b < L.length) {x : Int} (h1 : x ∈ rw' L a) (h2 : x ∈ rw' L b) : a = b := by
  unfold List.Nodup at h
  rw [List.pairwise_flatMap] at h
  have hp := h.2
  rw [List.pairwise_iff_getElem] at hp
  by_cases q : a < b
  · have := hp a b ha hb q x (by rw [get_some ha |> fun z => Option.some.inj ((List.getElem?_eq_getElem ha).symm.trans z)]; exact h1) x (by rw [get_some hb |> fun z => Option.some.inj ((List.getElem?_eq_getElem hb).symm.trans z)]; exact h2)
    exact absurd rfl this
  · by_cases q2 : b < a
    · have := hp b a hb ha q2 x (by rw [get_some hb |> fun z => Option.some.inj ((List.getElem?_eq_getElem hb).symm.trans z)]; exact h2) x (by rw [get_some ha |> fun z => Option.some.inj ((List.getElem?_eq_getElem ha).symm.trans z)]; exact h1)
      exact absurd rfl this
    · omega
theorem moved_ok {n : Nat} {L : List (List Int)} (h : LotsOk n L) {deed place : Int} (hd : 0 ≤ deed ∧ deed < n) (hp : 0 ≤ place ∧ place < L.length) : LotsOk n (movedW L deed place) := by
  constructor
  · unfold movedW List.Nodup
    rw [List.flatMap_map, List.pairwise_flatMap]
    constructor
    · intro a _
      exact (sset_lt _).imp fun {x y} h => by omega
    · refine List.Pairwise.imp_of_mem ?_ List.pairwise_lt_range
      intro a b ha hb hab x hx y hy e
      subst e
      have hx := movedRow_mem.mp (show x ∈ movedRow L deed place a from hx)
      have hy := movedRow_mem.mp (show x ∈ movedRow L deed place b from hy)
      have ha := List.mem_range.mp ha
      have hb := List.mem_range.mp hb
      rcases hx with ⟨x1, x2⟩ | ⟨x1, x2⟩
      · rcases hy with ⟨y1, y2⟩ | ⟨y1, y2⟩
        · have := row_uniq h.nd ha hb x1 y1
          omega
        · exact x2 y2
      · rcases hy with ⟨y1, y2⟩ | ⟨y1, y2⟩
        · exact y2 x2
        · omega
  · intro x
    unfold movedW
    rw [List.flatMap_map, List.mem_flatMap]
    constructor
    · rintro ⟨a, ha, hx⟩
      have ha := List.mem_range.mp ha
      rcases movedRow_mem.mp (show x ∈ movedRow L deed place a from hx) with ⟨x1, _⟩ | ⟨_, rfl⟩
      · exact (h.mem x).mp (flat_at.mpr ⟨a, ha, x1⟩)
      · exact hd
    · intro hx
      by_cases e : x = deed
      · exact ⟨place.toNat, List.mem_range.mpr (by omega), movedRow_mem.mpr (.inr ⟨by omega, e⟩)⟩
      · obtain ⟨a, ha, hm⟩ := flat_at.mp ((h.mem x).mpr hx)
        exact ⟨a, List.mem_range.mpr ha, movedRow_mem.mpr (.inl ⟨hm, e⟩)⟩
def goodB (w : List (List Int)) (L : List (List Int)) : Bool := decide ((L.filter fun lot => !(lapart w lot)) = [])
theorem moved_good {w : List (List Int)} {L : List (List Int)} (h : LotsOk w.length L) {deed place : Int} (hd : 0 ≤ deed ∧ deed < w.length) (hp : 0 ≤ place ∧ place < L.length) : lotsB w (movedW L deed place) = goodB w (movedW L deed place) := by
  unfold lotsB goodB
  rw [sort_upto (moved_ok h hd hp), decide_eq_true rfl, Bool.and_true, Bool.eq_iff_iff, List.all_eq_true, decide_eq_true_iff, List.filter_eq_nil_iff]
  refine forall_congr' fun ps => imp_congr_right fun hps => ?_
  obtain ⟨a, _, rfl⟩ := List.mem_map.mp hps
  rw [← lapart_eq (show (movedRow L deed place a).Pairwise (· < ·) from sset_lt _)]
  simp
def twiceW (L : List (List Int)) (deed : Int) (place : Nat) : List (List Int) := L.take place ++ [sset (rw' L place ++ [deed])] ++ L.drop (place + 1)
theorem twice_set {L : List (List Int)} {deed : Int} {place : Nat} (h : place < L.length) : twiceW L deed place = L.set place (sset (rw' L place ++ [deed])) := by
  unfold twiceW
  rw [List.set_eq_take_append_cons_drop, if_pos h, List.append_assoc]
  rfl
theorem twice_get {L : List (List Int)} {deed : Int} {place : Nat} (h : place < L.length) (j : Nat) : rw' (twiceW L deed place) j = if j = place then sset (rw' L place ++ [deed]) else rw' L j := by
  rw [twice_set h]
  unfold rw'
  rw [List.getD_eq_getElem?_getD, List.getElem?_set]
  by_cases hj : j = place
  · subst hj
    rw [if_pos rfl, if_pos rfl, if_pos h]
    rfl
  · rw [if_neg (fun z => hj z.symm), if_neg hj, List.getD_eq_getElem?_getD]
theorem twice_len {L : List (List Int)} {deed : Int} {place : Nat} (h : place < L.length) : (twiceW L deed place).length = L.length := by rw [twice_set h, List.length_set]
theorem twice_lots {w : List (List Int)} {L : List (List Int)} (h : LotsOk w.length L) (ha : ∀ ps ∈ L, ps.Pairwise (· < ·) ∧ Apart w ps) {deed : Int} (hd : 0 ≤ deed ∧ deed < w.length) {place : Nat} (hp : place < L.length) : lotsB w (twiceW L deed place) = decide (deed ∈ rw' L place) := by
  by_cases hm : deed ∈ rw' L place
  · have e : twiceW L deed place = L := by
      refine web_ext (twice_len hp) fun k _ => ?_
      rw [twice_get hp]
      by_cases q : k = place
      · subst q
        rw [if_pos rfl]
        refine asc_ext _ _ (sset_lt _) (ha _ (List.mem_of_getElem? (get_some hp))).1 fun x => ?_
        rw [sset_mem, List.mem_append, List.mem_singleton]
        exact ⟨fun z => z.elim id fun z => z ▸ hm, .inl⟩
      · rw [if_neg q]
    rw [e, decide_eq_true hm]
    exact lots_true h ha
  · rw [decide_eq_false hm]
    refine lots_nd fun nd => ?_
    obtain ⟨a, hal, hma⟩ := flat_at.mp ((h.mem deed).mpr hd)
    have hne : a ≠ place := fun z => hm (z ▸ hma)
    have := row_uniq nd (a := a) (b := place) (x := deed) (by rw [twice_len hp]; exact hal) (by rw [twice_len hp]; exact hp) (by rw [twice_get hp, if_neg hne]; exact hma) (by
      rw [twice_get hp, if_pos rfl, sset_mem]
      simp)
    exact hne this
theorem lots_more {w : List (List Int)} {L : List (List Int)} (h : LotsOk w.length L) (ha : ∀ ps ∈ L, ps.Pairwise (· < ·) ∧ Apart w ps) : lotsB w (L ++ [[]]) = true := by
  refine lots_true ⟨?_, fun x => ?_⟩ fun ps hp => ?_
  · rw [List.flatMap_append]
    show (L.flatMap id ++ []).Nodup
    rw [List.append_nil]
    exact h.nd
  · rw [List.flatMap_append]
    show x ∈ L.flatMap id ++ [] ↔ _
    rw [List.append_nil]
    exact h.mem x
  · rcases List.mem_append.mp hp with z | z
    · exact ha ps z
    · rw [List.mem_singleton.mp z]
      exact ⟨.nil, fun one h1 => absurd h1 List.not_mem_nil⟩
end W02
end

section
set_option Elab.async false
set_option linter.all false
set_option maxRecDepth 100000
/-! k02: the law's own body (1). -/
namespace W02
open PySem L2 PD WM

/-- a list, lent or not -/
def LK (xs : List D) (o : O) : Prop := o = .d (.list xs) ∨ o = .lst (xs.map .d)
theorem LK.toD {xs : List D} {o : O} (h : LK xs o) : o.toD = .list xs := by
  rcases h with rfl | rfl
  · rfl
  · exact toD_d xs
theorem LK.seq {xs : List D} {o : O} (h : LK xs o) : asSeq o = some xs := by
  rcases h with rfl | rfl
  · rfl
  · unfold asSeq
    rw [show asList (.lst (xs.map .d)) = some xs from datas_d xs]
theorem LK.ep {xs : List D} {o : O} (h : LK xs o) {C : CallT} {env : PD.Env} {i : Nat} (hl : look env i = some o) : EP C (.var i) env o := by
  rcases h with rfl | rfl
  · exact ep_var hl
  · exact ep_own hl (by rw [datas_d]; rfl)
theorem LK.ev {xs : List D} {o : O} (h : LK xs o) {C : CallT} {env : PD.Env} {i : Nat} (hl : look env i = some o) : ∃ env1, EV C (.var i) env (.d (.list xs)) env1 ∧ (env1 = env ∧ o = .d (.list xs) ∨ env1 = env.set i (some (.d (.list xs)))) := by
  rcases h with rfl | rfl
  · exact ⟨env, ev_var hl, .inl ⟨rfl, rfl⟩⟩
  · have := ev_own (C := C) hl
    rw [toD_d] at this
    exact ⟨_, this, .inr rfl⟩
theorem LK.pv {xs : List D} {o : O} (h : LK xs o) {C : CallT} {env : PD.Env} {i : Nat} (hl : look env i = some o) : (sem C (.var i)).p env = some (.slot i, env) := by
  rcases h with rfl | rfl
  · exact pv_slot hl
  · exact pv_own hl (by rw [datas_d]; rfl)
/-- _law_same of two lists -/
theorem s_same_mix {k : Nat} {xs : List D} {o1 o2 : O} (h1 : LK xs o1) (h2 : LK xs o2) (hlen : xs.length ≤ 5000) (hx : ∀ x ∈ xs, Okd k x) (n : Nat) : callF tab (n + k + 1) 29 [o1, o2] = some (oB true, [some (.d (.list xs)), some (.d (.list xs))]) := by
  have hty : ∀ {o}, LK xs o → tyOf o.toD = some .list := fun h => by rw [h.toD]; rfl
  have t0 : ∀ (t : Ty), EV (callF tab (n + k)) (.isi (.var 0) t) [some o1, some o2, none, none] (oB (isiT .list [t])) [some o1, some o2, none, none] := fun t => ev_isi (h1.ep rfl) (hty h1)
  have t1 : ∀ (t : Ty), EV (callF tab (n + k)) (.isi (.var 1) t) [some o1, some o2, none, none] (oB (isiT .list [t])) [some o1, some o2, none, none] := fun t => ev_isi (h2.ep rfl) (hty h2)
  have hc : EV (callF tab (n + k)) (.isiT (.var 1) [.list, .tuple]) [some o1, some o2, none, none] (oB true) [some o1, some o2, none, none] := ev_isiT (ty := .list) (h2.ep rfl) (hty h2)
  have eqb : ∀ b : Bool, op2f .ne (oB b) (oB b) = some (oB false) := fun b => by cases b <;> rfl
  have g : ET (callF tab (n + k)) (.or (.op2 .ne (.isi (.var 0) .list) (.isi (.var 1) .list)) (.op2 .ne (.isi (.var 0) .tuple) (.isi (.var 1) .tuple))) [some o1, some o2, none, none] false :=
    et_or (p := false) (q := false) (et_bl (ev_op2 (ep_d (t0 .list)) (ep_d (t1 .list)) (eqb _))) fun _ => et_bl (ev_op2 (ep_d (t0 .tuple)) (ep_d (t1 .tuple)) (eqb _))
  have hlen' : ∀ {o : O}, LK xs o → fnf .len [o] = some (oI (xs.length : Nat)) := fun h => by
    show (match asSeq _ with
      | some xs => some (oInt xs.length)
      | none => _) = _
    rw [h.seq]
    rfl
  have heq := ev_op2 (op := .eq) (C := callF tab (n + k)) (env := [some o1, some o2, none, none]) (ep_d (ev_fn1 (h1.ep (i := 0) rfl) (hlen' h1))) (ep_d (ev_fn1 (h2.ep (i := 1) rfl) (hlen' h2))) (eq_int _ _)
  rw [decide_eq_true rfl] at heq
  have hs : semS (callF tab (n + k)) (.zip (.var 0) (.var 1)) [some o1, some o2, none, none] = some (((xs.map fun z => Item.row [z, z]), none), [some (.d (.list xs)), some (.d (.list xs)), none, none]) := by
    rw [← zip_self]
    obtain ⟨env1, e1, q1⟩ := h1.ev (C := callF tab (n + k)) (env := [some o1, some o2, none, none]) (i := 0) rfl
    have q1 : env1 = [some (.d (.list xs)), some o2, none, none] := by
      rcases q1 with ⟨rfl, rfl⟩ | rfl <;> rfl
    subst q1
    obtain ⟨env2, e2, q2⟩ := h2.ev (C := callF tab (n + k)) (env := [some (.d (.list xs)), some o2, none, none]) (i := 1) rfl
    have q2 : env2 = [some (.d (.list xs)), some (.d (.list xs)), none, none] := by
      rcases q2 with ⟨rfl, rfl⟩ | rfl <;> rfl
    subst q2
    exact es_zipF e1 e2 rfl
  have hcomp := ev_compF (C := callF tab (n + k)) (env0 := [some o1, some o2, none, none]) (env := [some (.d (.list xs)), some (.d (.list xs)), none, none]) (elt := .call 29 [(.var 2), (.var 3)]) (tg := .tup [2, 3]) (src := .zip (.var 0) (.var 1)) (cond := none) (vs := [2, 3]) (xs := xs) (emb := fun z => Item.row [z, z]) (w := none) (g := fun _ => [oB true]) hs rfl (fun z hzm => turn_all (env1 := [some (.d (.list xs)), some (.d (.list xs)), some (.d z), some (.d z)]) rfl (ev_ret (k := k) (s_same_refl k z (hx z hzm)) (Nat.le_refl _) (eps_cons ep_var (eps_cons ep_var eps_nil))) rfl) (by rw [flatMap_one, List.length_map]; exact small_size (by omega)) rfl
  rw [flatMap_one] at hcomp
  have hall := all_map (p := fun _ : D => true) (xs := xs)
  rw [show (xs.all fun _ => true) = true from List.all_eq_true.mpr fun _ _ => rfl] at hall
  have hcase : ∀ bor : List Bool, exs (callF tab (n + k)) bor ir__law_same.body [some o1, some o2, none, none] = some (.rt (oB true) [some (.d (.list xs)), some (.d (.list xs)), none, none]) := fun bor => by
    refine xs_if_ret (p := true) (et_bl hc) ?_
    rw [if_pos rfl]
    refine xs_if_no g (xs_ret (ev_and (k := true) heq rfl (fun _ => ev_fnF hcomp rfl ?_) (fun z => by cases z)))
    rw [toD_map (fun _ => PyData.bool true)]
    exact hall
  exact call_rt (n := n + k) (r := ir__law_same) (env := [some (.d (.list xs)), some (.d (.list xs)), none, none]) rfl (hcase _)
/-- comparing two lists that stand in slots or were just made -/
theorem ev_sameL {n k : Nat} {e1 e2 : IE} {env env1 env2 env3 : PD.Env} {p1 p2 : Opnd} {xs : List D} {o1 o2 : O} (q1 : LK xs o1) (q2 : LK xs o2) (h1 : (sem (callF tab (n + 20)) e1).p env = some (p1, env1)) (h2 : (sem (callF tab (n + 20)) e2).p env1 = some (p2, env2)) (r1 : res env2 p1 = some o1) (r2 : res env2 p2 = some o2) (hlen : xs.length ≤ 5000) (hx : ∀ x ∈ xs, Okd k x) (hk : k ≤ 19) (hn : nodupB (lentOf [p1, p2] [o1, o2]) = true) (hg : giveBack [p1, p2] [o1, o2] [some (.d (.list xs)), some (.d (.list xs))] env2 = env3) : EV (callF tab (n + 20)) (.call 29 [e1, e2]) env (oB true) env3 := by
  have h := s_same_mix q1 q2 hlen hx (n + (19 - k))
  rw [show n + (19 - k) + k + 1 = n + 20 from by omega] at h
  exact ev_callL (ps2 h1 h2) (rs2 r1 r2) hn h rfl hg
theorem xs_unp {C : CallT} {bor : List Bool} {is : List Nat} {e : IE} {env env1 : PD.Env} {xs : List D} {ss : List IS} {out : Option Out} (h : EV C e env (.d (.tuple xs)) env1) (hl : is.length = xs.length) (hm : is.all (mayB bor) = true) (hr : exs C bor ss (stAll is (xs.map .d) env1) = out) : exs C bor (.unp is e :: ss) env = out := by
  (conv => lhs; unfold exs)
  unfold ex ev
  rw [hm, h]
  show (match guardB true (if is.length = xs.length then some (Out.nx (stAll is (xs.map .d) env1)) else none) with
    | some (.nx env1) => exs C bor ss env1
    | some o => some o
    | none => none) = _
  rw [if_pos hl]
  exact hr
theorem watch_oW {env : PD.Env} {i : Nat} {w : List (List Int)} (h : look env i = some (.lst (oW w))) : watch (some (i, w.map dT)) env = true := watch_own h (datas_map dT w) (noDs_map _ noD_T w)
/-- comparisons with nothing -/
theorem eqv_nil (ys : List D) : PyData.eqv (.list ys) (.list []) = decide (ys = []) := by
  unfold PyData.eqv
  cases ys with
  | nil => unfold PyData.eqvAll; rfl
  | cons y ys => unfold PyData.eqvAll; simp
theorem ep_nil {C : CallT} {env : PD.Env} : EP C (.lst []) env (.d (.list [])) := by
  have := ep_of (C := C) (e := .lst []) (env := env) (o := .lst []) rfl
  rw [toD_lst, toDs_nil] at this
  exact this
theorem dep_nil (a : D) : dep2 a (.list []) = true := dep2_r (show (dL []).depth ≤ 1 from depth_L []) (by decide)
theorem eqNil {C : CallT} {env : PD.Env} {e : IE} {α : Type} {xs : List α} {f : α → D} (h : EV C e env (.lst (xs.map fun a => .d (f a))) env) (hp : (sem C e).p = toP (sem C e).v := by rfl) : EV C (.op2 .eq e (.lst [])) env (oB (decide (xs = []))) env := by
  have h1 := ep_of h hp
  rw [toD_map] at h1
  have := ev_op2 (op := .eq) h1 ep_nil (op_eq (dep_nil _) (eqv_nil _))
  rw [show decide (xs.map f = []) = decide (xs = []) from decide_eq_decide.mpr List.map_eq_nil_iff] at this
  exact this
theorem neNil {C : CallT} {env : PD.Env} {e : IE} {α : Type} {xs : List α} {f : α → D} (h : EV C e env (.lst (xs.map fun a => .d (f a))) env) (hp : (sem C e).p = toP (sem C e).v := by rfl) : EV C (.op2 .ne e (.lst [])) env (oB (!decide (xs = []))) env := by
  have h1 := ep_of h hp
  rw [toD_map] at h1
  have := ev_op2 (op := .ne) h1 ep_nil (op_ne (dep_nil _) (eqv_nil _))
  rw [show decide (xs.map f = []) = decide (xs = []) from decide_eq_decide.mpr List.map_eq_nil_iff] at this
  exact this
theorem cFw {C : CallT} {env : PD.Env} {v : Nat} {elt c : IE} {α : Type} {src : Src} {xs : List α} {emb : α → D} {f : α → O} {p : α → Bool} {o : Option O} {w : Option (Nat × List D)} (hs : semS C src env = some (((xs.map fun a => Item.one (emb a)), w), env)) (hw : watch w (wipe env [v]) = true) (hc : ∀ a ∈ xs, ET C c (env.set v (some (.d (emb a)))) (p a)) (he : ∀ a ∈ xs, p a = true → EV C elt (env.set v (some (.d (emb a)))) (f a) (env.set v (some (.d (emb a))))) (hl : xs.length ≤ 100000) (hv : env[v]? = some o := by rfl) : EV C (.comp elt (.name v) src (some c) [v]) env (.lst ((xs.filter p).map f)) env := by
  have := ev_compM (C := C) (env := env) (elt := elt) (tg := .name v) (src := src) (cond := some c) (vs := [v]) (xs := xs) (emb := fun a => Item.one (emb a)) (w := w) (g := fun a => if p a = true then [f a] else []) hs hw (fun a ha => by
    refine turn_if (env1 := env.set v (some (.d (emb a)))) ?_ (hc a ha) (he a ha) ?_ (by show [v].contains v = true; simp)
    · show some ((env.set v none).set v (some (.d (emb a)))) = _
      rw [List.set_set]
    · show (env.set v (some (.d (emb a)))).set v none = env.set v none
      rw [List.set_set]) (by
    rw [flatMap_if, List.length_map]
    exact small_size (Nat.le_trans (List.length_filter_le ..) hl)) (backg hv)
  rw [flatMap_if] at this
  exact this
end W02
end

section
set_option Elab.async false
set_option linter.all false
set_option maxRecDepth 100000
/-! k02: the law's own body (2): up to the lots. -/
namespace W02
open PySem L2 PD WM

/-- the law's slots -/
abbrev QE (ns : List Int) (s1 s2 s3 s4 s5 s6 s8 s9 s10 s11 s12 s13 s14 s16 s17 s18 s19 s20 s21 s25 s26 s27 s28 s29 s30 : Option O) : PD.Env := [some (.d (dL ns)), s1, s2, s3, s4, s5, s6, none, s8, s9, s10, s11, s12, s13, s14, none, s16, s17, s18, s19, s20, s21, none, none, none, s25, s26, s27, s28, s29, s30]
/-- .. behind the first rounds -/
abbrev GE (ns : List Int) (w : List (List Int)) (y : D) (a b c : Int) (s5 s6 s12 s13 s16 s17 s18 s19 s20 s21 s25 s26 s27 s28 s29 s30 : Option O) : PD.Env := QE ns (some (oU a b c)) (some (oI (w.length : Nat))) (some (.d (dW w))) (some (.lst (oW (ab w)))) s5 s6 (some (oI (dep w))) (some (.d y)) (some (.d (dT (pathW w)))) (some (.d (dL (hgt w)))) s12 s13 (some (.d (dW (lotsW w)))) s16 s17 s18 s19 s20 s21 s25 s26 s27 s28 s29 s30
theorem l_box (n : Nat) (ns : List Int) (h : ns.length ≤ 63) : ∃ a b, UrnOk a b 0 1000000 ∧ ∀ out, exs (callF tab (n + 20)) [false] (ir_law.body.drop 1) (QE ns (some (oU a b 0)) none none none none none none none none none none none none none none none none none none none none none none none none) = out →
    exs (callF tab (n + 20)) [false] ir_law.body (QE ns none none none none none none none none none none none none none none none none none none none none none none none none none) = out := by
  obtain ⟨v, hv⟩ := s_cells ns h
  obtain ⟨a, b, hu, hb⟩ := s_box v
  refine ⟨a, b, hu, fun out ho => ?_⟩
  have hc := ep_of (ev_ret (k := 20) (n := n) (env := QE ns none none none none none none none none none none none none none none none none none none none none none none none none none) (es := [.var 0, .cint 1]) hv (by decide) (eps_cons ep_var (eps_cons (ep_d rfl) eps_nil)))
  rw [show (O.toD (.lst [oI v])) = dL [v] from toD_map PyData.int [v]] at hc
  exact xs_asg (ev_ret (k := 20) (n := n) hb (by decide) (eps_cons hc (eps_cons (ep_d (e := .cint 0) rfl) eps_nil))) ho
theorem l_many (n : Nat) (ns : List Int) {a b c : Int} {m : Nat} (hu : UrnOk a b c (m + 1)) : ∃ (N : Nat) (a' c' : Int), N ≤ 60 ∧ UrnOk a' b c' m ∧ ∀ out, exs (callF tab (n + 20)) [false] (ir_law.body.drop 2) (QE ns (some (oU a' b c')) (some (oI (N : Nat))) none none none none none none none none none none none none none none none none none none none none none none none) = out →
    exs (callF tab (n + 20)) [false] (ir_law.body.drop 1) (QE ns (some (oU a b c)) none none none none none none none none none none none none none none none none none none none none none none none none) = out := by
  obtain ⟨r, a', c', hr, hu', hof⟩ := s_of hu [60, 58, 37, 19, 3, 1, 0] (by decide) (by decide)
  obtain ⟨f, hof⟩ := hof (n + 18)
  have hr' : 0 ≤ r ∧ r ≤ 60 := by
    simp only [List.mem_cons, List.not_mem_nil, or_false] at hr
    omega
  refine ⟨r.toNat, a', c', by omega, hu', fun out ho => ?_⟩
  rw [show ((r.toNat : Nat) : Int) = r from by omega] at ho
  exact xs_asg (ev_callL (ps := [.slot 1, .val (dL [60, 58, 37, 19, 3, 1, 0])]) (os := [oU a b c, .d (dL [60, 58, 37, 19, 3, 1, 0])]) (env1 := QE ns (some (oU a b c)) none none none none none none none none none none none none none none none none none none none none none none none none) rfl rfl rfl hof rfl rfl) ho
theorem l_web (n : Nat) (ns : List Int) {a b c : Int} {m : Nat} (hu : UrnOk a b c (m + 3661)) (N : Nat) (hN : N ≤ 60) : ∃ (w : List (List Int)) (a' c' : Int), Web w ∧ w.length = N ∧ UrnOk a' b c' m ∧ ∀ out, exs (callF tab (n + 20)) [false] (ir_law.body.drop 3) (QE ns (some (oU a' b c')) (some (oI (N : Nat))) (some (.d (dW w))) none none none none none none none none none none none none none none none none none none none none none none) = out →
    exs (callF tab (n + 20)) [false] (ir_law.body.drop 2) (QE ns (some (oU a b c)) (some (oI (N : Nat))) none none none none none none none none none none none none none none none none none none none none none none none) = out := by
  obtain ⟨w, a', c', f, hw, hl, hu', hg⟩ := s_tall (n + 18) N hN hu
  refine ⟨w, a', c', hw, hl, hu', fun out ho => ?_⟩
  exact xs_asg (ev_callL (ps := [.slot 1, .slot 2]) (os := [oU a b c, oI (N : Nat)]) (env1 := QE ns (some (oU a b c)) (some (oI (N : Nat))) none none none none none none none none none none none none none none none none none none none none none none none) rfl rfl rfl hg rfl rfl) ho
theorem l_low (n : Nat) (ns : List Int) {u : O} {w : List (List Int)} (hw : Web w) : ∃ s6 : Option O, ∀ out, exs (callF tab (n + 20)) [false] (ir_law.body.drop 5) (QE ns (some u) (some (oI (w.length : Nat))) (some (.d (dW w))) (some (.lst (oW (ab w)))) (some (.lst ((lev w).map oI))) s6 none none none none none none none none none none none none none none none none none none none) = out →
    exs (callF tab (n + 20)) [false] (ir_law.body.drop 3) (QE ns (some u) (some (oI (w.length : Nat))) (some (.d (dW w))) none none none none none none none none none none none none none none none none none none none none none none) = out := by
  have hlen := hw.len
  have hs : evSrcF (callF tab (n + 20)) (.seq (.var 3)) (QE ns (some u) (some (oI (w.length : Nat))) (some (.d (dW w))) (some (.lst (oW (ab w)))) (some (.lst [])) none none none none none none none none none none none none none none none none none none none none) = some (((w.map fun r => Item.one (dT r)), none), (QE ns (some u) (some (oI (w.length : Nat))) (some (.d (dW w))) (some (.lst (oW (ab w)))) (some (.lst [])) none none none none none none none none none none none none none none none none none none none none)) := by
    refine (es_seq (C := callF tab (n + 20)) (src := .var 3) (o := .d (dW w)) (ev_var (i := 3) (x := dW w) (env := QE ns (some u) (some (oI (w.length : Nat))) (some (.d (dW w))) (some (.lst (oW (ab w)))) (some (.lst [])) none none none none none none none none none none none none none none none none none none none none) rfl) (xs := w.map dT) rfl).trans ?_
    rw [List.map_map]
    rfl
  obtain ⟨env1, h1, last, h2⟩ := for_inv (I := fun k env => ∃ last, env = QE ns (some u) (some (oI (w.length : Nat))) (some (.d (dW w))) (some (.lst (oW (ab w)))) (some (.lst ((lev (w.take k)).map oI))) last none none none none none none none none none none none none none none none none none none none) (f := fun x e => match stTg (.name 6) x e with
      | some e1 => exs (callF tab (n + 20)) [false] [.app 5 (.op2 .add (.cint 1) (.fn .max [(.op2 .add (.comp (.op2 .ix (.var 5) (.var 7)) (.name 7) (.seq (.var 6)) none [7]) (.lst [(.cint 0)]))]))] e1
      | none => none) (w.map fun r => Item.one (dT r)) 0 (QE ns (some u) (some (oI (w.length : Nat))) (some (.d (dW w))) (some (.lst (oW (ab w)))) (some (.lst [])) none none none none none none none none none none none none none none none none none none none none) ⟨none, rfl⟩ fun k it env hk hi => by
    obtain ⟨hkl, rfl⟩ := opt_get hk
    rw [Nat.zero_add] at hi ⊢
    obtain ⟨last, rfl⟩ := hi
    rw [lev_take w k _ (get_some hkl)]
    have hpos : ∀ near ∈ rw' w k, 0 ≤ at' (lev (w.take k)) near.toNat := fun near hn => by
      have b := (hw.rowOk hkl).bd near hn
      rw [lev_pre w k (by omega), at_take (by omega)]
      have := lev_pos hw (k := near.toNat) (by omega)
      omega
    generalize hf : lev (w.take k) = found at hpos
    have hfl : found.length = k := by rw [← hf, lev_len, List.length_take]; omega
    generalize hr : rw' w k = r at hpos
    have hok : RowOk k r := hr ▸ hw.rowOk hkl
    have hrl := hok.len
    refine ⟨QE ns (some u) (some (oI (w.length : Nat))) (some (.d (dW w))) (some (.lst (oW (ab w)))) (some (.lst (found.map oI ++ [oI (levIn found r)]))) (some (.d (dT r))) none none none none none none none none none none none none none none none none none none none, ?_, _, by rw [snoc_map]⟩
    have hcomp : EV (callF tab (n + 20)) (.comp (.op2 .ix (.var 5) (.var 7)) (.name 7) (.seq (.var 6)) none [7]) (QE ns (some u) (some (oI (w.length : Nat))) (some (.d (dW w))) (some (.lst (oW (ab w)))) (some (.lst (found.map oI))) (some (.d (dT r))) none none none none none none none none none none none none none none none none none none none) (.lst ((r.map fun near => at' found near.toNat).map oI)) (QE ns (some u) (some (oI (w.length : Nat))) (some (.d (dW w))) (some (.lst (oW (ab w)))) (some (.lst (found.map oI))) (some (.d (dT r))) none none none none none none none none none none none none none none none none none none none) := by
      rw [List.map_map]
      refine cA (xs := r) (emb := PyData.int) (f := fun near => oI (at' found near.toNat)) (es_rowD (i := 6) (x := dT r) rfl rfl) (fun near hn => ?_) (by omega)
      have b := hok.bd near hn
      exact ix_int (l := found) (ep_own (i := 5) (os := found.map oI) rfl (by rw [datas_map PyData.int]; rfl)) (ep_var (i := 7) rfl) (asSeq_map PyData.int found) b.1 (by omega)
    have hmax := ev_fn1 (f := .max) (ep_ints (ev_op2 (op := .add) (ep_ints hcomp) ev_l0 (opAdd_l0 _ (by rw [List.length_map]; omega)))) (max_fn0 rfl fun x hx => by
      obtain ⟨near, hn, rfl⟩ := List.mem_map.mp hx
      exact hpos near hn)
    have hval := ev_op2 (op := .add) (x := oI 1) (ep_d (e := .cint 1) rfl) (ep_d hmax) (op_addI _ _)
    show exs _ _ _ _ = _
    exact xs_app (os := found.map oI) (os1 := found.map oI) (o := oI (levIn found r)) rfl hval rfl (by rw [List.length_map, sizeLine_eq]; omega) xs_nil
  rw [Nat.zero_add, List.length_map, List.take_length] at h2
  subst h2
  refine ⟨last, fun out ho => ?_⟩
  exact xs_pars (os := [.lst (oW (ab w)), .lst []]) (vs_cons (ev_ret (k := 20) (n := n) (s_labove hw) (by decide) (eps_cons ep_var eps_nil)) (vs_cons (o := .lst []) rfl vs_nil)) (xs_for hs h1 ho)
theorem l_soft (n : Nat) (ns : List Int) {a b c : Int} {m : Nat} {w : List (List Int)} (hw : Web w) (hu : UrnOk a b c (m + 61)) {s6 : Option O} : ∃ y a' c', Soft y w ∧ UrnOk a' b c' m ∧ ∀ out, exs (callF tab (n + 20)) [false] (ir_law.body.drop 6) (QE ns (some (oU a' b c')) (some (oI (w.length : Nat))) (some (.d (dW w))) (some (.lst (oW (ab w)))) (some (.lst ((lev w).map oI))) s6 (some (oI (dep w))) (some (.d y)) none none none none none none none none none none none none none none none none none) = out →
    exs (callF tab (n + 20)) [false] (ir_law.body.drop 5) (QE ns (some (oU a b c)) (some (oI (w.length : Nat))) (some (.d (dW w))) (some (.lst (oW (ab w)))) (some (.lst ((lev w).map oI))) s6 none none none none none none none none none none none none none none none none none none none) = out := by
  have hl := hw.len
  have hll := lev_len w
  obtain ⟨y, a', c', hy, hu', hm⟩ := s_mix_web (m := m) (w := w) (hu.less (by omega)) (by omega) fun r hr => by have := hw.mem hr; omega
  obtain ⟨f, hm⟩ := hm (n + 17)
  refine ⟨y, a', c', hy, hu', fun out ho => ?_⟩
  have hmax : EV (callF tab (n + 20)) (.fn .max [(.op2 .add (.var 5) (.lst [(.cint 0)]))]) (QE ns (some (oU a b c)) (some (oI (w.length : Nat))) (some (.d (dW w))) (some (.lst (oW (ab w)))) (some (.lst ((lev w).map oI))) s6 none none none none none none none none none none none none none none none none none none none) (oI (dep w)) (QE ns (some (oU a b c)) (some (oI (w.length : Nat))) (some (.d (dW w))) (some (.lst (oW (ab w)))) (some (.lst ((lev w).map oI))) s6 none none none none none none none none none none none none none none none none none none none) :=
    ev_fn1 (ep_ints (ev_op2 (op := .add) (ep_own (i := 5) (os := (lev w).map oI) rfl (by rw [datas_map PyData.int]; rfl)) ev_l0 (opAdd_own0 _ (by omega)))) (max_fn0 rfl fun x hx => by
      obtain ⟨k, hk⟩ := List.getElem?_of_mem hx
      have hkl : k < w.length := by
        by_cases q : k < w.length
        · exact q
        · rw [List.getElem?_eq_none (by omega)] at hk; cases hk
      have := lev_pos hw hkl
      rw [at_of hk] at this
      omega)
  have hmix : EV (callF tab (n + 20)) (.call 34 [(.var 1), (.var 3)]) (QE ns (some (oU a b c)) (some (oI (w.length : Nat))) (some (.d (dW w))) (some (.lst (oW (ab w)))) (some (.lst ((lev w).map oI))) s6 none none none none none none none none none none none none none none none none none none none) (.d y) (QE ns (some (oU a' b c')) (some (oI (w.length : Nat))) (some (.d (dW w))) (some (.lst (oW (ab w)))) (some (.lst ((lev w).map oI))) s6 none none none none none none none none none none none none none none none none none none none) :=
    ev_callL (ps := [.slot 1, .slot 3]) (os := [oU a b c, .d (dW w)]) (env1 := QE ns (some (oU a b c)) (some (oI (w.length : Nat))) (some (.d (dW w))) (some (.lst (oW (ab w)))) (some (.lst ((lev w).map oI))) s6 none none none none none none none none none none none none none none none none none none none) rfl rfl rfl hm rfl rfl
  exact xs_pars (os := [oI (dep w), .d y]) (vs_cons hmax (vs_cons hmix vs_nil)) ho
theorem l_best (n : Nat) (ns : List Int) {u y : O} {w : List (List Int)} (hw : Web w) {s6 : Option O} {out : Option Out} (ho : exs (callF tab (n + 20)) [false] (ir_law.body.drop 7) (QE ns (some u) (some (oI (w.length : Nat))) (some (.d (dW w))) (some (.lst (oW (ab w)))) (some (.lst ((lev w).map oI))) s6 (some (oI (dep w))) (some y) (some (.d (dT (pathW w)))) (some (.d (dL (hgt w)))) none none none none none none none none none none none none none none none) = out) :
    exs (callF tab (n + 20)) [false] (ir_law.body.drop 6) (QE ns (some u) (some (oI (w.length : Nat))) (some (.d (dW w))) (some (.lst (oW (ab w)))) (some (.lst ((lev w).map oI))) s6 (some (oI (dep w))) (some y) none none none none none none none none none none none none none none none none none) = out := by
  have p5 := pv_own (C := callF tab (n + 20)) (i := 5) (env := QE ns (some u) (some (oI (w.length : Nat))) (some (.d (dW w))) (some (.lst (oW (ab w)))) (some (.lst ((lev w).map oI))) s6 (some (oI (dep w))) (some y) none none none none none none none none none none none none none none none none none) (os := (lev w).map oI) rfl (by rw [datas_map PyData.int]; rfl)
  have p3 := pv_slot (C := callF tab (n + 20)) (i := 3) (env := QE ns (some u) (some (oI (w.length : Nat))) (some (.d (dW w))) (some (.lst (oW (ab w)))) (some (.lst ((lev w).map oI))) s6 (some (oI (dep w))) (some y) none none none none none none none none none none none none none none none none none) (x := dW w) rfl
  exact xs_unp (xs := [dT (pathW w), dL (hgt w)]) (ev_callL (ps2 p3 p5) (os := [.d (dW w), .lst ((lev w).map oI)]) rfl rfl (s_best hw (n + 19)) rfl rfl) rfl rfl ho
theorem l_free (n : Nat) (ns : List Int) {u y p10 : O} {w : List (List Int)} (hw : Web w) {s6 : Option O} {out : Option Out} (ho : exs (callF tab (n + 20)) [false] (ir_law.body.drop 9) (QE ns (some u) (some (oI (w.length : Nat))) (some (.d (dW w))) (some (.lst (oW (ab w)))) (some (.lst ((lev w).map oI))) s6 (some (oI (dep w))) (some y) (some p10) (some (.d (dL (hgt w)))) (some (.lst ((slk w).map oI))) none (some (.d (dW (lotsW w)))) none none none none none none none none none none none none) = out) :
    exs (callF tab (n + 20)) [false] (ir_law.body.drop 7) (QE ns (some u) (some (oI (w.length : Nat))) (some (.d (dW w))) (some (.lst (oW (ab w)))) (some (.lst ((lev w).map oI))) s6 (some (oI (dep w))) (some y) (some p10) (some (.d (dL (hgt w)))) none none none none none none none none none none none none none none none) = out := by
  have hlen := hw.len
  have hl := lev_len w
  have hh := hgt_len w
  have d0 := dep_nn hw
  have d1 := dep_le hw
  have e : (slk w).map oI = (List.range w.length).map fun k => oI (dep w + 1 - at' (lev w) k - at' (hgt w) k) := by
    unfold slk
    rw [List.map_map]
    rfl
  have e2 : dW (lotsW w) = .tuple ((List.range (dep w).toNat).map fun m => dT (lotAt w (1 + (m : Nat)))) := by
    unfold lotsW dW
    rw [List.map_map]
    rfl
  rw [e] at ho
  rw [e2] at ho
  refine xs_asg (cA (xs := List.range w.length) (emb := fun k : Nat => PyData.int (k : Nat)) (f := fun k => oI (dep w + 1 - at' (lev w) k - at' (hgt w) k)) (es_rngN (n := w.length) (ev_var rfl) (by omega)) (fun k hk => ?_) (by rw [List.length_range]; omega)) ?_
  · have hk := List.mem_range.mp hk
    exact ev_op2 (ep_d (ev_op2 (ep_d (ev_op2 (ep_var (i := 8) rfl) (ep_d (e := .cint 1) rfl) (op_addI _ _))) (ep_d (ix_int (l := lev w) (z := (k : Nat)) (ep_own (i := 5) (os := (lev w).map oI) rfl (by rw [datas_map PyData.int]; rfl)) (ep_var (i := 13) rfl) (asSeq_map PyData.int _) (by omega) (by omega))) (op_sub _ _))) (ep_d (ix_int (l := hgt w) (z := (k : Nat)) (ep_var (i := 11) rfl) (ep_var (i := 13) rfl) rfl (by omega) (by omega))) (op_sub _ _)
  · refine xs_asg (tupOf (ys := List.range (dep w).toNat) (g := fun m => dT (lotAt w (1 + (m : Nat)))) (cA (xs := List.range (dep w).toNat) (emb := fun m : Nat => PyData.int (1 + (m : Nat))) (f := fun m => .d (dT (lotAt w (1 + (m : Nat))))) (rng_lots d0 (by omega) rfl (ev_op2 (ep_var (i := 8) rfl) (ep_d (e := .cint 1) rfl) (op_addI _ _))) (fun m hm => ?_) (by rw [List.length_range]; omega))) ho
    refine pick_of (N := w.length) (p := fun k => decide (at' (lev w) k = 1 + (m : Nat))) (ev_var rfl) hlen fun k hk => ?_
    exact et_bl (ev_op2 (ep_d (ix_int (l := lev w) (z := (k : Nat)) (ep_own (i := 5) (os := (lev w).map oI) rfl (by rw [datas_map PyData.int]; rfl)) (ep_var (i := 13) rfl) (asSeq_map PyData.int _) (by omega) (by omega))) (ep_var (i := 15) rfl) (eq_int _ _))
end W02
end

section
set_option Elab.async false
set_option linter.all false
set_option maxRecDepth 100000
/-! k02: the law's own body (3): the first comparisons. -/
namespace W02
open PySem L2 PD WM

/-- what is compared first -/
abbrev du1 (w : List (List Int)) : List D := [.int (w.length : Nat), .int (dep w), dL (lev w), dL (hgt w), dL (slk w), dT (mustW w), dT (pathW w), dW (lotsW w), .tuple [.int (w.length : Nat), .int (dep w)], .tuple [dT (pathW w), dW (lotsW w)]]
theorem pick_len (n : Nat) (p : Nat → Bool) : (pick n p).length ≤ n := by
  unfold pick
  rw [List.length_map]
  exact Nat.le_trans (List.length_filter_le ..) (by rw [List.length_range]; exact Nat.le_refl _)
theorem okd_L (xs : List Int) (h : xs.length ≤ 5000) : Okd 2 (dL xs) := .list (by rw [List.length_map]; exact h) fun x hx => by
  obtain ⟨i, _, rfl⟩ := List.mem_map.mp hx
  exact .int 0 i
theorem byNum_bd {n d : Nat} {f g : Nat → Int} : ∀ ps ∈ byNum n f g d, ps.length ≤ n ∧ ∀ a ∈ ps, 0 ≤ a ∧ a < n := fun ps hp => by
  obtain ⟨m, _, rfl⟩ := List.mem_map.mp hp
  refine ⟨pick_len _ _, fun a ha => ?_⟩
  obtain ⟨k, hk, _, rfl⟩ := pick_mem.mp ha
  omega
theorem okd1 {w : List (List Int)} (hw : Web w) : ∀ x ∈ du1 w, Okd 4 x := by
  have hlen := hw.len
  have hl := lev_len w
  have hh := hgt_len w
  have hs := slk_len w
  have hp := path_len hw
  have hd := dl_eq hw
  have hdl := dep_le hw
  have hml := pick_len w.length fun k => decide (at' (slk w) k = 0)
  have hlots : Okd 3 (dW (lotsW w)) := okd_W _ (by rw [lotsW_by, byNum_len]; omega) fun r hr => by
    rw [lotsW_by] at hr
    have := (byNum_bd r hr).1
    omega
  have hpath : Okd 2 (dT (pathW w)) := okd_T _ (by omega)
  exact all_c (.int 3 _) (all_c (.int 3 _) (all_c ((okd_L _ (by omega)).up (by decide)) (all_c ((okd_L _ (by omega)).up (by decide)) (all_c ((okd_L _ (by omega)).up (by decide)) (all_c ((okd_T _ (show (mustW w).length ≤ 5000 from by unfold mustW; omega)).up (by decide)) (all_c (hpath.up (by decide)) (all_c (hlots.up (by decide)) (all_c (.tuple (by simp) (all_c (.int 2 _) (all_c (.int 2 _) all_n))) (all_c (.tuple (by simp) (all_c (hpath.up (by decide)) (all_c hlots all_n))) all_n)))))))))
section
variable {ns : List Int} {w : List (List Int)} {y : D} {a b c : Int} {s5 s6 s12 s13 s16 s17 s18 s19 s20 s21 s25 s26 s27 s28 s29 s30 : Option O}
theorem l_got (n : Nat) (hw : Web w) (hy : Soft y w) {out : Option Out} (ho : exs (callF tab (n + 20)) [false] (ir_law.body.drop 12) (GE ns w y a b c (some (.d (dL (lev w)))) s6 (some (.d (dL (slk w)))) none (some (.d (.list (du1 w)))) (some (.d (.list (du1 w)))) none none none none none none none none none none) = out) :
    exs (callF tab (n + 20)) [false] (ir_law.body.drop 9) (GE ns w y a b c (some (.lst ((lev w).map oI))) s6 (some (.lst ((slk w).map oI))) none none none none none none none none none none none none none) = out := by
  have hlen := hw.len
  have c1 : ∀ {i k : Nat} {o : O}, Ret tab k i [.d y] o → k ≤ 20 → EV (callF tab (n + 20)) (.call i [.var 9]) (GE ns w y a b c (some (.lst ((lev w).map oI))) s6 (some (.lst ((slk w).map oI))) none none none none none none none none none none none none none) o (GE ns w y a b c (some (.lst ((lev w).map oI))) s6 (some (.lst ((slk w).map oI))) none none none none none none none none none none none none none) :=
    fun h hk => ev_ret (k := 20) (n := n) h hk (eps_cons ep_var eps_nil)
  refine xs_asg (ev_lst (vs_cons (c1 (s_work hy) (by decide)) (vs_cons (c1 (s_depth hy hw) (by decide)) (vs_cons (c1 (s_levels hy hw) (by decide)) (vs_cons (c1 (s_heights hy hw) (by decide)) (vs_cons (c1 (s_slack hy hw) (by decide)) (vs_cons (c1 (s_must hy hw) (by decide)) (vs_cons (c1 (s_longest hy hw) (by decide)) (vs_cons (c1 (s_lots hy hw) (by decide)) (vs_cons (c1 (s_share hy hw) (by decide)) (vs_cons (c1 (s_paper hy hw) (by decide)) vs_nil)))))))))) (small_size (show 10 ≤ 100000 by decide))) ?_
  generalize hgot : O.lst [oI (w.length : Nat), oI (dep w), .lst ((lev w).map oI), .lst ((hgt w).map oI), .lst ((slk w).map oI), .d (dT (mustW w)), .d (dT (pathW w)), .d (dW (lotsW w)), .d (.tuple [.int (w.length : Nat), .int (dep w)]), .d (.tuple [dT (pathW w), dW (lotsW w)])] = got
  have v5 := ev_own (C := callF tab (n + 20)) (i := 5) (env := GE ns w y a b c (some (.lst ((lev w).map oI))) s6 (some (.lst ((slk w).map oI))) none (some got) none none none none none none none none none none none) (os := (lev w).map oI) rfl
  rw [toD_map PyData.int] at v5
  have v12 := ev_own (C := callF tab (n + 20)) (i := 12) (env := GE ns w y a b c (some (.d (dL (lev w)))) s6 (some (.lst ((slk w).map oI))) none (some got) none none none none none none none none none none none) (os := (slk w).map oI) rfl
  rw [toD_map PyData.int] at v12
  have vm : EV (callF tab (n + 20)) (.fn .tuple [(.comp (.var 13) (.name 13) (.rng1 (.var 2)) (some (.op2 .eq (.op2 .ix (.var 12) (.var 13)) (.cint 0))) [13])]) (GE ns w y a b c (some (.d (dL (lev w)))) s6 (some (.d (dL (slk w)))) none (some got) none none none none none none none none none none none) (.d (dT (mustW w))) (GE ns w y a b c (some (.d (dL (lev w)))) s6 (some (.d (dL (slk w)))) none (some got) none none none none none none none none none none none) := by
    have hsl := slk_len w
    exact pick_of (N := w.length) (ev_var rfl) hlen fun k hk => et_bl (ev_op2 (ep_d (ix_int (l := slk w) (z := (k : Nat)) (ep_var (i := 12) rfl) (ep_var (i := 13) rfl) rfl (by omega) (by omega))) (ep_d (e := .cint 0) rfl) (eq_int _ 0))
  have vdue := ev_lst (vs_cons (ev_var (C := callF tab (n + 20)) (i := 2) (x := .int (w.length : Nat)) (env := GE ns w y a b c (some (.lst ((lev w).map oI))) s6 (some (.lst ((slk w).map oI))) none (some got) none none none none none none none none none none none) rfl) (vs_cons (ev_var (i := 8) (x := .int (dep w)) rfl) (vs_cons v5 (vs_cons (ev_var (i := 11) (x := dL (hgt w)) rfl) (vs_cons v12 (vs_cons vm (vs_cons (ev_var (i := 10) (x := dT (pathW w)) rfl) (vs_cons (ev_var (i := 14) (x := dW (lotsW w)) rfl) (vs_cons (ev_tup (es := [.var 2, .var 8]) (ds_cons (ev_var (i := 2) (x := .int (w.length : Nat)) rfl) (ds_cons (ev_var (i := 8) (x := .int (dep w)) rfl) ds_nil)) (small_size (show 2 ≤ 100000 by decide))) (vs_cons (ev_tup (es := [.var 10, .var 14]) (ds_cons (ev_var (i := 10) (x := dT (pathW w)) rfl) (ds_cons (ev_var (i := 14) (x := dW (lotsW w)) rfl) ds_nil)) (small_size (show 2 ≤ 100000 by decide))) vs_nil)))))))))) (small_size (show 10 ≤ 100000 by decide))
  refine xs_asg vdue ?_
  have et : O.toD got = .list (du1 w) := by
    rw [← hgot]
    simp only [toD_lst, toDs_cons, toDs_nil, toD_dd, toDs_map PyData.int]
  have p1 := pv_nest (C := callF tab (n + 20)) (i := 16) (env := GE ns w y a b c (some (.d (dL (lev w)))) s6 (some (.d (dL (slk w)))) none (some got) (some (.lst ((du1 w).map .d))) none none none none none none none none none none) (os := [oI (w.length : Nat), oI (dep w), .lst ((lev w).map oI), .lst ((hgt w).map oI), .lst ((slk w).map oI), .d (dT (mustW w)), .d (dT (pathW w)), .d (dW (lotsW w)), .d (.tuple [.int (w.length : Nat), .int (dep w)]), .d (.tuple [dT (pathW w), dW (lotsW w)])]) (by rw [hgot]; rfl) rfl
  rw [hgot, et] at p1
  have p2 := pv_own (C := callF tab (n + 20)) (i := 17) (env := GE ns w y a b c (some (.d (dL (lev w)))) s6 (some (.d (dL (slk w)))) none (some (.d (.list (du1 w)))) (some (.lst ((du1 w).map .d))) none none none none none none none none none none) (os := (du1 w).map .d) rfl (by rw [datas_d]; rfl)
  exact xs_ifG (not_same (ev_sameL (k := 4) (.inl rfl) (.inr rfl) p1 p2 rfl rfl (by simp) (okd1 hw) (by decide) rfl rfl)) ho
theorem reach_law (hw : Web w) : reachW w = (List.range w.length).map fun k => (((rw' (ab w) k).length : Int), (((ab w).filter fun r => decide ((k : Int) ∈ r)).length : Int)) := by
  unfold reachW
  refine List.map_congr_left fun k hk => ?_
  have hk := List.mem_range.mp hk
  have e : ((ab w).filter fun r => decide ((k : Int) ∈ r)).length = (rw' (bl w) k).length := by
    rw [bl_get hk]
    unfold blw
    rw [List.length_map]
    have ew : ab w = (List.range w.length).map fun d => rw' (ab w) d := web_ext (by rw [List.length_map, List.length_range, ab_len]) fun j hj => by
      rw [ab_len] at hj
      refine (rw_some ?_).symm
      rw [List.getElem?_map, List.getElem?_range hj]
      rfl
    conv => lhs; rw [ew]
    rw [List.filter_map, List.length_map]
    rfl
  rw [e]
theorem l_reach (n : Nat) (hw : Web w) (hy : Soft y w) {out : Option Out} (ho : exs (callF tab (n + 20)) [false] (ir_law.body.drop 13) (GE ns w y a b c s5 s6 s12 none s16 s17 none none none none none none none none none none) = out) :
    exs (callF tab (n + 20)) [false] (ir_law.body.drop 12) (GE ns w y a b c s5 s6 s12 none s16 s17 none none none none none none none none none none) = out := by
  have hlen := hw.len
  have hal := ab_len w
  have hcomp : EV (callF tab (n + 20)) (.comp (.tup [(.fn .len [(.op2 .ix (.var 4) (.var 13))]), (.fn .len [(.comp (.cint 1) (.name 6) (.seq (.var 4)) (some (.op2 .isin (.var 13) (.var 6))) [6])])]) (.name 13) (.rng1 (.var 2)) none [13]) (GE ns w y a b c s5 s6 s12 none s16 s17 none none none none none none none none none none) (.lst ((reachW w).map fun p => .d (pD p))) (GE ns w y a b c s5 s6 s12 none s16 s17 none none none none none none none none none none) := by
    rw [reach_law hw, List.map_map]
    refine cA (xs := List.range w.length) (emb := fun k : Nat => PyData.int (k : Nat)) (f := fun k => .d (pD (((rw' (ab w) k).length : Int), (((ab w).filter fun r => decide ((k : Int) ∈ r)).length : Int)))) (es_rngN (n := w.length) (ev_var rfl) (by omega)) (fun k hk => ?_) (by rw [List.length_range]; omega)
    have hk := List.mem_range.mp hk
    have hin : EV (callF tab (n + 20)) (.comp (.cint 1) (.name 6) (.seq (.var 4)) (some (.op2 .isin (.var 13) (.var 6))) [6]) ((GE ns w y a b c s5 s6 s12 none s16 s17 none none none none none none none none none none).set 13 (some (oI (k : Nat)))) (.lst (((ab w).filter fun r => decide ((k : Int) ∈ r)).map fun _ => oI 1)) ((GE ns w y a b c s5 s6 s12 none s16 s17 none none none none none none none none none none).set 13 (some (oI (k : Nat)))) := by
      refine cFw (xs := ab w) (emb := dT) (w := some (4, (ab w).map dT)) (p := fun r => decide ((k : Int) ∈ r)) (f := fun _ => oI 1) ?_ (watch_oW (i := 4) (w := ab w) rfl) (fun r hr => et_bl (ev_op2 (ep_var (i := 13) rfl) (ep_var (i := 6) rfl) (in_int (xs := r) (k : Int) rfl))) (fun r hr _ => rfl) (by omega)
      refine (es_varL (i := 4) (env := (GE ns w y a b c s5 s6 s12 none s16 s17 none none none none none none none none none none).set 13 (some (oI (k : Nat)))) (os := oW (ab w)) rfl (datas_map dT (ab w))).trans ?_
      rw [List.map_map]
      rfl
    have hin2 := ep_of hin
    rw [toD_map (fun _ : List Int => PyData.int 1)] at hin2
    exact ev_tup (ds_cons (ev_fn1 (ep_d (ix_oW (w := ab w) (i := 4) (j := 13) (z := (k : Nat)) rfl rfl (by omega) (by omega))) (len_map (f := PyData.int) (xs := rw' (ab w) k) rfl)) (ds_cons (ev_fn1 hin2 (len_map (f := fun _ : List Int => PyData.int 1) (xs := (ab w).filter fun r => decide ((k : Int) ∈ r)) rfl)) ds_nil)) (small_size (show 2 ≤ 100000 by decide))
  have p1 := pv_of (ev_ret (k := 20) (n := n) (env := GE ns w y a b c s5 s6 s12 none s16 s17 none none none none none none none none none none) (s_reach hy hw) (by decide) (es := [.var 9]) (eps_cons ep_var eps_nil))
  have p2 := pv_of hcomp
  rw [toD_map] at p1 p2
  refine xs_ifG (not_same (ev_same p1 p2 rfl rfl (k := 3) (okd_P _ ?_) (by decide))) ho
  unfold reachW
  rw [List.length_map, List.length_range]
  omega
theorem l_zero (n : Nat) (hw : Web w) : (w.length = 0 ∧ ∃ env, env.length = 31 ∧ exs (callF tab (n + 20)) [false] (ir_law.body.drop 13) (GE ns w y a b c s5 s6 s12 none s16 s17 none none none none none none none none none none) = some (.rt (oB true) env)) ∨ (0 < w.length ∧ ∀ out, exs (callF tab (n + 20)) [false] (ir_law.body.drop 14) (GE ns w y a b c s5 s6 s12 none s16 s17 none none none none none none none none none none) = out → exs (callF tab (n + 20)) [false] (ir_law.body.drop 13) (GE ns w y a b c s5 s6 s12 none s16 s17 none none none none none none none none none none) = out) := by
  have hcond : ET (callF tab (n + 20)) (.op2 .eq (.var 2) (.cint 0)) (GE ns w y a b c s5 s6 s12 none s16 s17 none none none none none none none none none none) (decide ((w.length : Int) = 0)) := et_bl (ev_op2 (ep_var (i := 2) rfl) (ep_d (e := .cint 0) rfl) (eq_int _ 0))
  by_cases h : w.length = 0
  · refine .inl ⟨h, GE ns w y a b c s5 s6 s12 none s16 s17 none none none none none none none none none none, ?_, ?_⟩
    · rfl
    · rw [decide_eq_true (show (w.length : Int) = 0 by omega)] at hcond
      have hw0 : Web [] := ⟨Nat.zero_le _, fun k r hr => by cases k <;> cases hr⟩
      have hx0 : Soft (.tuple []) [] := Soft.hard []
      have n0 : ∀ ps ∈ ([] : List (List Int)), ps.length ≤ 300 := fun ps hp => absurd hp List.not_mem_nil
      have b1 := s_deep hx0 hw0 (ps := []) (by simp) (fun a ha => absurd ha List.not_mem_nil) (L := []) (by simp) n0 (fun ps hp => absurd hp List.not_mem_nil)
      have b2 := s_deep hx0 hw0 (ps := []) (by simp) (fun a ha => absurd ha List.not_mem_nil) (L := [[]]) (by simp) (fun ps hp => by rw [List.mem_singleton.mp hp]; simp) (fun ps hp a ha => by rw [List.mem_singleton.mp hp] at ha; cases ha)
      have b3 := s_is_path hx0 hw0 (ps := []) (by simp) (fun a ha => absurd ha List.not_mem_nil)
      have b4 := s_is_lots hx0 hw0 (L := [[], []]) (by simp) (fun ps hp => by
        simp only [List.mem_cons, List.not_mem_nil, or_false, or_self] at hp
        rw [hp]; simp) (fun ps hp a ha => by
        simp only [List.mem_cons, List.not_mem_nil, or_false, or_self] at hp
        rw [hp] at ha; cases ha)
      have l0 : LotsOk 0 [] := ⟨List.nodup_nil, fun x => ⟨fun h => absurd h List.not_mem_nil, fun h => by omega⟩⟩
      have l1 : LotsOk 0 [[]] := ⟨List.nodup_nil, fun x => ⟨fun h => absurd h List.not_mem_nil, fun h => by omega⟩⟩
      have l2 : LotsOk 0 [[], []] := ⟨List.nodup_nil, fun x => ⟨fun h => absurd h List.not_mem_nil, fun h => by omega⟩⟩
      have na : Apart [] [] := fun one h => absurd h List.not_mem_nil
      rw [lots_true (w := []) l0 (fun ps hp => absurd hp List.not_mem_nil)] at b1
      rw [lots_true (w := []) l1 (fun ps hp => by rw [List.mem_singleton.mp hp]; exact ⟨.nil, na⟩)] at b2
      rw [lots_true (w := []) l2 (fun ps hp => by
        simp only [List.mem_cons, List.not_mem_nil, or_false, or_self] at hp
        rw [hp]; exact ⟨.nil, na⟩)] at b4
      have p1 := pv_of (ev_lst (vs_cons (ev_ret (k := 20) (n := n) (env := GE ns w y a b c s5 s6 s12 none s16 s17 none none none none none none none none none none) b1 (by decide) (es := [.tup [], .tup [.tup [], .tup []]]) (eps_cons (ep_d (e := .tup []) rfl) (eps_cons (ep_d (e := .tup [.tup [], .tup []]) rfl) eps_nil))) (vs_cons (ev_ret (k := 20) (n := n) b2 (by decide) (es := [.tup [], .tup [.tup [], .tup [.tup []]]]) (eps_cons (ep_d (e := .tup []) rfl) (eps_cons (ep_d (e := .tup [.tup [], .tup [.tup []]]) rfl) eps_nil))) (vs_cons (ev_ret (k := 20) (n := n) b3 (by decide) (es := [.tup [], .tup []]) (eps_cons (ep_d (e := .tup []) rfl) (eps_cons (ep_d (e := .tup []) rfl) eps_nil))) (vs_cons (ev_ret (k := 20) (n := n) b4 (by decide) (es := [.tup [], .tup [.tup [], .tup []]]) (eps_cons (ep_d (e := .tup []) rfl) (eps_cons (ep_d (e := .tup [.tup [], .tup []]) rfl) eps_nil))) vs_nil)))) (small_size (show 4 ≤ 100000 by decide)))
      have p2 := pv_of (ev_lst (C := callF tab (n + 20)) (env := GE ns w y a b c s5 s6 s12 none s16 s17 none none none none none none none none none none) (vs_cons (e := .cbl true) (o := oB true) rfl (vs_cons (e := .cbl false) (o := oB false) rfl (vs_cons (e := .cbl true) (o := oB true) rfl (vs_cons (e := .cbl true) (o := oB true) rfl vs_nil)))) (small_size (show 4 ≤ 100000 by decide)))
      refine xs_if_ret (p := true) hcond ?_
      rw [if_pos rfl]
      exact xs_ret (ev_same (x := .list [.bool true, .bool false, .bool true, .bool true]) (k := 2) p1 p2 rfl rfl (.list (by simp) (all_c (.bool 0 _) (all_c (.bool 0 _) (all_c (.bool 0 _) (all_c (.bool 0 _) all_n))))) (by decide))
  · rw [decide_eq_false (show ¬ (w.length : Int) = 0 by omega)] at hcond
    exact .inr ⟨by omega, fun out ho => xs_if_no hcond ho⟩
theorem l_late (n : Nat) (hw : Web w) {out : Option Out} (ho : exs (callF tab (n + 20)) [false] (ir_law.body.drop 15) (GE ns w y a b c s5 s6 s12 none s16 s17 (some (.d (dW (lateW w)))) none none none none none none none none none) = out) :
    exs (callF tab (n + 20)) [false] (ir_law.body.drop 14) (GE ns w y a b c s5 s6 s12 none s16 s17 none none none none none none none none none none) = out := by
  have hlen := hw.len
  have hh := hgt_len w
  have hd := dl_eq hw
  have hdl := dep_le hw
  have e2 : dW (lateW w) = .tuple ((List.range (dl w)).map fun m => dT (pick w.length fun k => decide (at' (hgt w) k = dep w - (m : Nat)))) := by
    unfold lateW byNum dW
    rw [List.map_map]
    rfl
  rw [e2] at ho
  have hv8 : EV (callF tab (n + 20)) (.var 8) (GE ns w y a b c s5 s6 s12 none s16 s17 none none none none none none none none none none) (oI (dl w : Nat)) (GE ns w y a b c s5 s6 s12 none s16 s17 none none none none none none none none none none) := by
    rw [hd]
    exact ev_var rfl
  refine xs_asg (tupOf (ys := List.range (dl w)) (g := fun m => dT (pick w.length fun k => decide (at' (hgt w) k = dep w - (m : Nat)))) (cA (xs := List.range (dl w)) (emb := fun m : Nat => PyData.int (m : Nat)) (f := fun m => .d (dT (pick w.length fun k => decide (at' (hgt w) k = dep w - (m : Nat))))) (es_rngN (n := dl w) hv8 (by omega)) (fun m hm => ?_) (by rw [List.length_range]; omega))) ho
  refine pick_of (N := w.length) (p := fun k => decide (at' (hgt w) k = dep w - (m : Nat))) (ev_var rfl) hlen fun k hk => ?_
  exact et_bl (ev_op2 (ep_d (ix_int (l := hgt w) (z := (k : Nat)) (ep_var (i := 11) rfl) (ep_var (i := 13) rfl) rfl (by omega) (by omega))) (ep_d (ev_op2 (ep_var (i := 8) rfl) (ep_var (i := 15) rfl) (op_sub _ _))) (eq_int _ _))
end
end W02
end

section
set_option Elab.async false
set_option linter.all false
set_option maxRecDepth 100000
/-! k02: the law's own body (4): lots of own making. -/
namespace W02
open PySem L2 PD WM

def ownBody : List IS := match ir_law.body.getD 15 .pass with
  | .fors _ _ b => b
  | _ => []
/-- lots that are told -/
structure Good (w : List (List Int)) (L : List (List Int)) : Prop where
  ok : LotsOk w.length L
  ap : ∀ ps ∈ L, ps.Pairwise (· < ·) ∧ Apart w ps
  len : L.length = dl w
  bd : ∀ ps ∈ L, ps.length ≤ w.length ∧ ∀ a ∈ ps, 0 ≤ a ∧ a < w.length
theorem good_lots {w : List (List Int)} (hw : Web w) : Good w (lotsW w) := ⟨lots_ok hw, lots_ap hw, by rw [lotsW_by, byNum_len], by rw [lotsW_by]; exact byNum_bd⟩
theorem good_late {w : List (List Int)} (hw : Web w) : Good w (lateW w) := ⟨late_ok hw, late_ap hw, by unfold lateW; rw [byNum_len], byNum_bd⟩
theorem slcf_tup {α : Type} (f : α → D) (xs : List α) (lo hi : Option Int) : slcf (.d (.tuple (xs.map f))) lo hi = some (.d (.tuple ((cutD xs lo hi).map f))) := by
  show some (O.d (.tuple (cutD (xs.map f) lo hi))) = _
  have e : cutD (xs.map f) lo hi = (cutD xs lo hi).map f := by
    unfold cutD
    rw [List.length_map, List.map_take, List.map_drop]
  rw [e]
theorem cut_to {α : Type} (xs : List α) (j : Int) (h0 : 0 ≤ j) (h1 : j ≤ xs.length) : cutD xs none (some j) = xs.take j.toNat := by
  unfold cutD
  have e1 : HT.sIx xs.length 0 none = 0 := rfl
  have e2 : HT.sIx xs.length xs.length (some j) = j.toNat := by
    unfold HT.sIx
    show (if j < 0 then _ else _) = _
    rw [if_neg (by omega)]
    omega
  rw [e1, e2]
  simp
theorem cut_from {α : Type} (xs : List α) (j : Int) (h0 : 0 ≤ j) (h1 : j ≤ xs.length) : cutD xs (some j) none = xs.drop j.toNat := by
  unfold cutD
  have e1 : HT.sIx xs.length 0 (some j) = j.toNat := by
    unfold HT.sIx
    show (if j < 0 then _ else _) = _
    rw [if_neg (by omega)]
    omega
  have e2 : HT.sIx xs.length xs.length none = xs.length := rfl
  rw [e1, e2, List.take_of_length_le]
  rw [List.length_drop]
  omega
theorem opAdd_dTT (xs ys : List D) (h : xs.length + ys.length ≤ 100000) : op2f .add (.d (.tuple xs)) (.d (.tuple ys)) = some (.d (.tuple (xs ++ ys))) := by
  show (match asInt (O.d (.tuple xs)), asInt (O.d (.tuple ys)) with
    | some i, some j => some (oInt (i + j))
    | _, _ => guardB (decide (xs.length + ys.length ≤ sizeLine)) (some (O.d (.tuple (xs ++ ys))))) = _
  show guardB (decide (xs.length + ys.length ≤ sizeLine)) _ = _
  rw [decide_eq_true (small_size h)]
  rfl
section
variable {ns : List Int} {w : List (List Int)} {y : D} {a b c : Int} {s5 s6 s12 s13 s16 s17 s18 s19 s20 s21 s25 s26 s27 s28 s29 s30 : Option O}
theorem o_cmp1 (n : Nat) (hw : Web w) (hy : Soft y w) (h0 : 0 < w.length) {L : List (List Int)} (g : Good w L) {out : Option Out} (ho : exs (callF tab (n + 20)) [false] (ownBody.drop 1) (GE ns w y a b c s5 s6 s12 s13 s16 s17 s18 (some (.d (dW L))) s20 s21 s25 s26 s27 s28 s29 s30) = out) :
    exs (callF tab (n + 20)) [false] ownBody (GE ns w y a b c s5 s6 s12 s13 s16 s17 s18 (some (.d (dW L))) s20 s21 s25 s26 s27 s28 s29 s30) = out := by
  have hlen := hw.len
  have hp := path_len hw
  have hd := dl_eq hw
  have hdl := dep_le hw
  have hgl := g.len
  have hpb := path_bd hw
  have hdp : 1 ≤ dl w := by
    have := lev_pos hw h0
    have := lev_le hw h0
    omega
  have hLl : ∀ ps ∈ L, ps.length ≤ 300 := fun ps hps => by have := (g.bd ps hps).1; omega
  have hLb : ∀ ps ∈ L, ∀ a ∈ ps, 0 ≤ a ∧ a < w.length := fun ps hps => (g.bd ps hps).2
  have b1 := s_is_lots hy hw (L := L) (by omega) hLl hLb
  have b2 := s_deep hy hw (ps := pathW w) (by omega) hpb (L := L) (by omega) hLl hLb
  have b4 := s_deep hy hw (ps := (pathW w).drop 1) (by rw [List.length_drop]; omega) (fun a ha => hpb a (List.mem_of_mem_drop ha)) (L := L) (by omega) hLl hLb
  rw [lots_true g.ok g.ap] at b1 b2 b4
  rw [path_path hw, decide_eq_true (show ((pathW w).length : Int) = (L.length : Int) by omega)] at b2
  rw [List.length_drop, decide_eq_false (show ¬ (((pathW w).length - 1 : Nat) : Int) = (L.length : Int) by omega), Bool.and_false, Bool.and_false] at b4
  have v10 : EV (callF tab (n + 20)) (.var 10) (GE ns w y a b c s5 s6 s12 s13 s16 s17 s18 (some (.d (dW L))) s20 s21 s25 s26 s27 s28 s29 s30) (.d (dT (pathW w))) (GE ns w y a b c s5 s6 s12 s13 s16 s17 s18 (some (.d (dW L))) s20 s21 s25 s26 s27 s28 s29 s30) := ev_var rfl
  have v19 : EV (callF tab (n + 20)) (.var 19) (GE ns w y a b c s5 s6 s12 s13 s16 s17 s18 (some (.d (dW L))) s20 s21 s25 s26 s27 s28 s29 s30) (.d (dW L)) (GE ns w y a b c s5 s6 s12 s13 s16 s17 s18 (some (.d (dW L))) s20 s21 s25 s26 s27 s28 s29 s30) := ev_var rfl
  have vsl : EV (callF tab (n + 20)) (.slc (.var 10) (some (.cint 1)) none) (GE ns w y a b c s5 s6 s12 s13 s16 s17 s18 (some (.d (dW L))) s20 s21 s25 s26 s27 s28 s29 s30) (.d (dT ((pathW w).drop 1))) (GE ns w y a b c s5 s6 s12 s13 s16 s17 s18 (some (.d (dW L))) s20 s21 s25 s26 s27 s28 s29 s30) := ev_slc (ep_var (i := 10) rfl) (ei_some (l := 1) rfl) ei_none (cutD_tail _ (by omega))
  have t1 := ev_tup (ds_cons v10 (ds_cons v19 ds_nil)) (small_size (show 2 ≤ 100000 by decide))
  have t2 := ev_lst (vs_cons v10 (vs_cons v19 vs_nil)) (small_size (show 2 ≤ 100000 by decide))
  have t3 := ev_tup (ds_cons vsl (ds_cons v19 ds_nil)) (small_size (show 2 ≤ 100000 by decide))
  have e2 : EP (callF tab (n + 20)) (.lst [(.var 10), (.var 19)]) (GE ns w y a b c s5 s6 s12 s13 s16 s17 s18 (some (.d (dW L))) s20 s21 s25 s26 s27 s28 s29 s30) (.d (.list [dT (pathW w), dW L])) := by
    have := ep_of t2
    rw [show O.toD (.lst [.d (dT (pathW w)), .d (dW L)]) = .list [dT (pathW w), dW L] from by simp only [toD_lst, toDs_cons, toDs_nil, toD_dd]] at this
    exact this
  have p1 := pv_of (ev_lst (vs_cons (ev_ret (k := 20) (n := n) b1 (by decide) (es := [.var 9, .var 19]) (eps_cons (ep_var (i := 9) rfl) (eps_cons (ep_var (i := 19) rfl) eps_nil))) (vs_cons (ev_ret (k := 20) (n := n) b2 (by decide) (es := [.var 9, .tup [.var 10, .var 19]]) (eps_cons (ep_var (i := 9) rfl) (eps_cons (ep_d t1) eps_nil))) (vs_cons (ev_ret (k := 20) (n := n) (s_deep_list (x := y) (xs := [dT (pathW w), dW L])) (by decide) (es := [.var 9, .lst [.var 10, .var 19]]) (eps_cons (ep_var (i := 9) rfl) (eps_cons e2 eps_nil))) (vs_cons (ev_ret (k := 20) (n := n) b4 (by decide) (es := [.var 9, .tup [.slc (.var 10) (some (.cint 1)) none, .var 19]]) (eps_cons (ep_var (i := 9) rfl) (eps_cons (ep_d t3) eps_nil))) vs_nil)))) (small_size (show 4 ≤ 100000 by decide)))
  have p2 := pv_of (ev_lst (C := callF tab (n + 20)) (env := GE ns w y a b c s5 s6 s12 s13 s16 s17 s18 (some (.d (dW L))) s20 s21 s25 s26 s27 s28 s29 s30) (vs_cons (e := .cbl true) (o := oB true) rfl (vs_cons (e := .cbl true) (o := oB true) rfl (vs_cons (e := .cbl false) (o := oB false) rfl (vs_cons (e := .cbl false) (o := oB false) rfl vs_nil)))) (small_size (show 4 ≤ 100000 by decide)))
  exact xs_ifG (not_same (ev_same (x := .list [.bool true, .bool true, .bool false, .bool false]) (k := 2) p1 p2 rfl rfl (.list (by simp) (all_c (.bool 0 _) (all_c (.bool 0 _) (all_c (.bool 0 _) (all_c (.bool 0 _) all_n))))) (by decide))) ho
theorem o_take (n : Nat) {m : Nat} (hw : Web w) (h0 : 0 < w.length) (hu : UrnOk a b c (m + 2)) : ∃ (i j a' c' : Int), 0 ≤ i ∧ i < w.length ∧ 0 ≤ j ∧ j < dep w ∧ UrnOk a' b c' m ∧ ∀ out, exs (callF tab (n + 20)) [false] (ownBody.drop 2) (GE ns w y a' b c' s5 s6 s12 (some (oI i)) s16 s17 s18 s19 (some (oI j)) s21 s25 s26 s27 s28 s29 s30) = out →
    exs (callF tab (n + 20)) [false] (ownBody.drop 1) (GE ns w y a b c s5 s6 s12 s13 s16 s17 s18 s19 s20 s21 s25 s26 s27 s28 s29 s30) = out := by
  have hlen := hw.len
  have hdl := dep_le hw
  have hdp : 1 ≤ dep w := by
    have := lev_pos hw h0
    have := lev_le hw h0
    omega
  obtain ⟨i, a1, c1, i0, i1, h1, t1⟩ := take_ok (m := m + 1) hu (low := (w.length : Nat)) (by omega) (by omega)
  obtain ⟨j, a2, c2, j0, j1, h2, t2⟩ := take_ok (m := m) h1 (low := dep w) (by omega) (by omega)
  refine ⟨i, j, a2, c2, i0, i1, j0, j1, h2, fun out ho => ?_⟩
  have e1 := ev_take (n := n) (k := 20) (i := 1) (e := .var 2) (env := GE ns w y a b c s5 s6 s12 s13 s16 s17 s18 s19 s20 s21 s25 s26 s27 s28 s29 s30) t1 (by decide) rfl (ep_var rfl)
  have e2 := ev_take (n := n) (k := 20) (i := 1) (e := .var 8) (env := GE ns w y a1 b c1 s5 s6 s12 s13 s16 s17 s18 s19 s20 s21 s25 s26 s27 s28 s29 s30) t2 (by decide) rfl (ep_var rfl)
  exact xs_pars (vs_cons e1 (vs_cons e2 vs_nil)) ho
theorem enum_rows {C : CallT} {env : PD.Env} {i : Nat} {L : List (List Int)} (h : look env i = some (.d (dW L))) : semS C (.enum (.var i)) env = some ((((List.range L.length).map fun k => Item.row [.int (k : Nat), dT (rw' L k)]), none), env) := by
  refine es_enumN (f := fun k => dT (rw' L k)) (ev_var h) ?_
  show some (L.map dT) = _
  congr 1
  apply List.ext_getElem?
  intro j
  rw [List.getElem?_map, List.getElem?_map]
  by_cases hi : j < L.length
  · rw [List.getElem?_range hi, get_some hi]; rfl
  · rw [List.getElem?_eq_none (by omega), List.getElem?_eq_none (by simpa using hi)]; rfl
theorem row_len {L : List (List Int)} (g : Good w L) {k : Nat} (hk : k < L.length) : (rw' L k).length ≤ w.length ∧ ∀ a ∈ rw' L k, 0 ≤ a ∧ a < w.length := g.bd _ (List.mem_of_getElem? (get_some hk))
theorem o_moved (n : Nat) (hw : Web w) {L : List (List Int)} (g : Good w L) {i j : Int} (i0 : 0 ≤ i) (i1 : i < w.length) {out : Option Out} (ho : exs (callF tab (n + 20)) [false] (ownBody.drop 3) (GE ns w y a b c s5 s6 s12 (some (oI i)) s16 s17 s18 (some (.d (dW L))) (some (oI j)) (some (.d (dW (movedW L i j)))) s25 s26 s27 s28 s29 s30) = out) :
    exs (callF tab (n + 20)) [false] (ownBody.drop 2) (GE ns w y a b c s5 s6 s12 (some (oI i)) s16 s17 s18 (some (.d (dW L))) (some (oI j)) s21 s25 s26 s27 s28 s29 s30) = out := by
  have hlen := hw.len
  have hgl := g.len
  have hd := dl_eq hw
  have hdl := dep_le hw
  have e : dW (movedW L i j) = .tuple ((List.range L.length).map fun k => dT (movedRow L i j k)) := by
    unfold movedW dW
    rw [List.map_map]
    rfl
  rw [e] at ho
  have hcomp := ev_compM (C := callF tab (n + 20)) (env := GE ns w y a b c s5 s6 s12 (some (oI i)) s16 s17 s18 (some (.d (dW L))) (some (oI j)) s21 s25 s26 s27 s28 s29 s30) (elt := .call 31 [(.op2 .add (.comp (.var 22) (.name 22) (.seq (.var 24)) (some (.op2 .ne (.var 22) (.var 13))) [22]) (.ite (.op2 .eq (.var 23) (.var 20)) (.lst [(.var 13)]) (.lst [])))]) (tg := .tup [23, 24]) (src := .enum (.var 19)) (cond := none) (vs := [23, 24]) (xs := List.range L.length) (emb := fun k => Item.row [.int (k : Nat), dT (rw' L k)]) (w := none) (g := fun k => [O.d (dT (movedRow L i j k))]) (enum_rows rfl) rfl (fun k hk => by
    have hk := List.mem_range.mp hk
    obtain ⟨r1, r2⟩ := row_len g hk
    have hf := cF (C := callF tab (n + 20)) (env := ((GE ns w y a b c s5 s6 s12 (some (oI i)) s16 s17 s18 (some (.d (dW L))) (some (oI j)) s21 s25 s26 s27 s28 s29 s30).set 23 (some (oI (k : Nat)))).set 24 (some (.d (dT (rw' L k))))) (v := 22) (elt := .var 22) (c := .op2 .ne (.var 22) (.var 13)) (xs := rw' L k) (emb := PyData.int) (f := oI) (p := fun far => !decide (far = i)) (es_rowD (i := 24) (x := dT (rw' L k)) rfl rfl) (fun far hfar => et_bl (ev_op2 (ep_var (i := 22) rfl) (ep_var (i := 13) rfl) (ne_int far i))) (fun far hfar _ => ev_var (look_set rfl _)) (by omega) rfl
    have hite : EV (callF tab (n + 20)) (.ite (.op2 .eq (.var 23) (.var 20)) (.lst [(.var 13)]) (.lst [])) (((GE ns w y a b c s5 s6 s12 (some (oI i)) s16 s17 s18 (some (.d (dW L))) (some (oI j)) s21 s25 s26 s27 s28 s29 s30).set 23 (some (oI (k : Nat)))).set 24 (some (.d (dT (rw' L k))))) (.lst ((if decide ((k : Int) = j) = true then [i] else []).map oI)) (((GE ns w y a b c s5 s6 s12 (some (oI i)) s16 s17 s18 (some (.d (dW L))) (some (oI j)) s21 s25 s26 s27 s28 s29 s30).set 23 (some (oI (k : Nat)))).set 24 (some (.d (dT (rw' L k))))) := by
      have hc : ET (callF tab (n + 20)) (.op2 .eq (.var 23) (.var 20)) (((GE ns w y a b c s5 s6 s12 (some (oI i)) s16 s17 s18 (some (.d (dW L))) (some (oI j)) s21 s25 s26 s27 s28 s29 s30).set 23 (some (oI (k : Nat)))).set 24 (some (.d (dT (rw' L k))))) (decide ((k : Int) = j)) := et_bl (ev_op2 (ep_var (i := 23) rfl) (ep_var (i := 20) rfl) (eq_int _ _))
      refine ev_iteT hc (fun z => ?_) (fun z => ?_)
      · rw [z, if_pos rfl]
        exact ev_lst (vs_cons (ev_var (i := 13) rfl) vs_nil) (small_size (show 1 ≤ 100000 by decide))
      · rw [z, if_neg (by decide)]
        rfl
    have hbd : ∀ x ∈ (rw' L k).filter (fun far => !decide (far = i)) ++ (if decide ((k : Int) = j) = true then [i] else []), 0 ≤ x ∧ x < 60 := fun x hx => by
      rcases List.mem_append.mp hx with z | z
      · have := r2 x (List.mem_filter.mp z).1
        omega
      · by_cases q : (k : Int) = j
        · rw [decide_eq_true q, if_pos rfl] at z
          rw [List.mem_singleton.mp z]
          omega
        · rw [decide_eq_false q, if_neg (by decide)] at z
          cases z
    have hl2 : ((rw' L k).filter (fun far => !decide (far = i))).length ≤ 60 := Nat.le_trans (List.length_filter_le ..) (by omega)
    have hl3 : (if decide ((k : Int) = j) = true then [i] else []).length ≤ 1 := by split <;> simp
    have hadd := ev_op2 (op := .add) (ep_ints hf) (ep_ints hite) (opAdd_LL _ _ (by omega))
    have harg := ep_of hadd
    rw [toD_mk] at harg
    exact turn_all (env1 := ((GE ns w y a b c s5 s6 s12 (some (oI i)) s16 s17 s18 (some (.d (dW L))) (some (oI j)) s21 s25 s26 s27 s28 s29 s30).set 23 (some (oI (k : Nat)))).set 24 (some (.d (dT (rw' L k))))) rfl (ev_ret (k := 20) (n := n) (s_lset (x := dL ((rw' L k).filter (fun far => !decide (far = i)) ++ (if decide ((k : Int) = j) = true then [i] else []))) _ rfl (by rw [List.length_append]; omega) (sset_small hbd)) (by decide) (eps_cons harg eps_nil)) rfl) (by rw [flatMap_one, List.length_map, List.length_range]; exact small_size (by omega)) rfl
  rw [flatMap_one] at hcomp
  exact xs_asg (tupOf hcomp) ho
theorem moved_bd {L : List (List Int)} (g : Good w L) (hw : Web w) {i j : Int} (i0 : 0 ≤ i) (i1 : i < w.length) : ∀ ps ∈ movedW L i j, ps.length ≤ 60 ∧ ∀ a ∈ ps, 0 ≤ a ∧ a < w.length := fun ps hps => by
  have hlen := hw.len
  obtain ⟨k, hk, rfl⟩ := List.mem_map.mp hps
  have hk := List.mem_range.mp hk
  have hb : ∀ a ∈ movedRow L i j k, 0 ≤ a ∧ a < (w.length : Int) := fun a ha => by
    rcases movedRow_mem.mp ha with ⟨z, _⟩ | ⟨_, rfl⟩
    · exact (row_len g hk).2 a z
    · exact ⟨i0, i1⟩
  refine ⟨?_, hb⟩
  have := len_bound (movedRow L i j k) 0 w.length (sset_lt _) hb
  omega
theorem o_good (n : Nat) (hw : Web w) {L : List (List Int)} (hLl : L.length ≤ 60) (hLb : ∀ ps ∈ L, ps.length ≤ 60 ∧ ∀ a ∈ ps, 0 ≤ a ∧ a < w.length) {out : Option Out} (ho : exs (callF tab (n + 20)) [false] (ownBody.drop 4) (GE ns w y a b c s5 s6 s12 s13 s16 s17 s18 s19 s20 (some (.d (dW L))) (some (oB (goodB w L))) s26 s27 s28 s29 s30) = out) :
    exs (callF tab (n + 20)) [false] (ownBody.drop 3) (GE ns w y a b c s5 s6 s12 s13 s16 s17 s18 s19 s20 (some (.d (dW L))) s25 s26 s27 s28 s29 s30) = out := by
  have hlen := hw.len
  have hal := ab_len w
  have hsrc : semS (callF tab (n + 20)) (.seq (.var 21)) (GE ns w y a b c s5 s6 s12 s13 s16 s17 s18 s19 s20 (some (.d (dW L))) s25 s26 s27 s28 s29 s30) = some (((L.map fun r => Item.one (dT r)), none), GE ns w y a b c s5 s6 s12 s13 s16 s17 s18 s19 s20 (some (.d (dW L))) s25 s26 s27 s28 s29 s30) := by
    refine (es_varD (i := 21) (x := dW L) (env := GE ns w y a b c s5 s6 s12 s13 s16 s17 s18 s19 s20 (some (.d (dW L))) s25 s26 s27 s28 s29 s30) (xs := L.map dT) rfl rfl).trans ?_
    rw [List.map_map]
    rfl
  refine xs_asg (eqNil (f := fun _ => PyData.int 1) (cF (xs := L) (emb := dT) (p := fun lot => !(lapart w lot)) (f := fun _ => oI 1) hsrc (fun lot hlot => ?_) (fun lot _ _ => rfl) (by omega))) ho
  obtain ⟨l1, l2⟩ := hLb lot hlot
  refine et_bl (neNil (f := fun _ => PyData.int 1) (cF (xs := lot) (emb := PyData.int) (p := fun far => !decide ((lot.filter fun near => decide (near ∈ rw' (ab w) far.toNat)) = [])) (f := fun _ => oI 1) (es_rowD (i := 24) (x := dT lot) rfl rfl) (fun far hfar => ?_) (fun far _ _ => rfl) (by omega)))
  have b := l2 far hfar
  refine et_bl (neNil (f := PyData.int) (cF (xs := lot) (emb := PyData.int) (p := fun near => decide (near ∈ rw' (ab w) far.toNat)) (f := oI) (es_rowD (i := 24) (x := dT lot) rfl rfl) (fun near hnear => ?_) (fun near _ _ => ev_var rfl) (by omega)))
  exact et_bl (ev_op2 (ep_var (i := 7) rfl) (ep_d (ix_oW (w := ab w) (i := 4) (j := 22) (z := far) rfl rfl (by omega) (by omega))) (in_int (xs := rw' (ab w) far.toNat) near rfl))
theorem o_cmp2 (n : Nat) (hw : Web w) (hy : Soft y w) {L : List (List Int)} (g : Good w L) {i j : Int} (i0 : 0 ≤ i) (i1 : i < w.length) (j0 : 0 ≤ j) (j1 : j < dep w) {out : Option Out} (ho : exs (callF tab (n + 20)) [false] (ownBody.drop 5) (GE ns w y a b c s5 s6 s12 s13 s16 s17 s18 s19 s20 (some (.d (dW (movedW L i j)))) (some (oB (goodB w (movedW L i j)))) s26 s27 s28 s29 s30) = out) :
    exs (callF tab (n + 20)) [false] (ownBody.drop 4) (GE ns w y a b c s5 s6 s12 s13 s16 s17 s18 s19 s20 (some (.d (dW (movedW L i j)))) (some (oB (goodB w (movedW L i j)))) s26 s27 s28 s29 s30) = out := by
  have hlen := hw.len
  have hp := path_len hw
  have hd := dl_eq hw
  have hdl := dep_le hw
  have hgl := g.len
  have hml : (movedW L i j).length = L.length := by unfold movedW; rw [List.length_map, List.length_range]
  have hmb := moved_bd g hw (j := j) i0 i1
  have b1 := s_is_lots hy hw (L := movedW L i j) (by omega) (fun ps hps => by have := (hmb ps hps).1; omega) (fun ps hps => (hmb ps hps).2)
  have b2 := s_deep hy hw (ps := pathW w) (by omega) (path_bd hw) (L := movedW L i j) (by omega) (fun ps hps => by have := (hmb ps hps).1; omega) (fun ps hps => (hmb ps hps).2)
  rw [path_path hw, decide_eq_true (show ((pathW w).length : Int) = ((movedW L i j).length : Int) by omega), Bool.and_true, Bool.true_and] at b2
  rw [moved_good g.ok ⟨i0, i1⟩ ⟨j0, by omega⟩] at b1 b2
  have t1 := ev_tup (ds_cons (ev_var (C := callF tab (n + 20)) (i := 10) (x := dT (pathW w)) (env := GE ns w y a b c s5 s6 s12 s13 s16 s17 s18 s19 s20 (some (.d (dW (movedW L i j)))) (some (oB (goodB w (movedW L i j)))) s26 s27 s28 s29 s30) rfl) (ds_cons (ev_var (i := 21) (x := dW (movedW L i j)) rfl) ds_nil)) (small_size (show 2 ≤ 100000 by decide))
  have p1 := pv_of (ev_lst (vs_cons (ev_ret (k := 20) (n := n) (env := GE ns w y a b c s5 s6 s12 s13 s16 s17 s18 s19 s20 (some (.d (dW (movedW L i j)))) (some (oB (goodB w (movedW L i j)))) s26 s27 s28 s29 s30) b1 (by decide) (es := [.var 9, .var 21]) (eps_cons (ep_var (i := 9) rfl) (eps_cons (ep_var (i := 21) rfl) eps_nil))) (vs_cons (ev_ret (k := 20) (n := n) b2 (by decide) (es := [.var 9, .tup [.var 10, .var 21]]) (eps_cons (ep_var (i := 9) rfl) (eps_cons (ep_d t1) eps_nil))) vs_nil)) (small_size (show 2 ≤ 100000 by decide)))
  have p2 := pv_of (ev_lst (C := callF tab (n + 20)) (env := GE ns w y a b c s5 s6 s12 s13 s16 s17 s18 s19 s20 (some (.d (dW (movedW L i j)))) (some (oB (goodB w (movedW L i j)))) s26 s27 s28 s29 s30) (vs_cons (ev_var (i := 25) (x := .bool (goodB w (movedW L i j))) rfl) (vs_cons (ev_var (i := 25) (x := .bool (goodB w (movedW L i j))) rfl) vs_nil)) (small_size (show 2 ≤ 100000 by decide)))
  exact xs_ifG (not_same (ev_same (x := .list [.bool (goodB w (movedW L i j)), .bool (goodB w (movedW L i j))]) (k := 2) p1 p2 rfl rfl (.list (by simp) (all_c (.bool 0 _) (all_c (.bool 0 _) all_n))) (by decide))) ho
theorem o_twice (n : Nat) (hw : Web w) (hy : Soft y w) {L : List (List Int)} (g : Good w L) {i j : Int} (i0 : 0 ≤ i) (i1 : i < w.length) (j0 : 0 ≤ j) (j1 : j < dep w) : ∃ s26', exs (callF tab (n + 20)) [false] (ownBody.drop 5) (GE ns w y a b c s5 s6 s12 (some (oI i)) s16 s17 s18 (some (.d (dW L))) (some (oI j)) s21 s25 s26 s27 s28 s29 s30) = some (.nx (GE ns w y a b c s5 s6 s12 (some (oI i)) s16 s17 s18 (some (.d (dW L))) (some (oI j)) s21 s25 s26' s27 s28 s29 s30)) := by
  have hlen := hw.len
  have hd := dl_eq hw
  have hdl := dep_le hw
  have hgl := g.len
  have hjl : j.toNat < L.length := by omega
  obtain ⟨r1, r2⟩ := row_len g hjl
  have hix : EV (callF tab (n + 20)) (.op2 .ix (.var 19) (.var 20)) (GE ns w y a b c s5 s6 s12 (some (oI i)) s16 s17 s18 (some (.d (dW L))) (some (oI j)) s21 s25 s26 s27 s28 s29 s30) (.d (dT (rw' L j.toNat))) (GE ns w y a b c s5 s6 s12 (some (oI i)) s16 s17 s18 (some (.d (dW L))) (some (oI j)) s21 s25 s26 s27 s28 s29 s30) := ix_dW (xs := L) rfl rfl rfl j0 (by omega)
  have s1 : EV (callF tab (n + 20)) (.slc (.var 19) none (some (.var 20))) (GE ns w y a b c s5 s6 s12 (some (oI i)) s16 s17 s18 (some (.d (dW L))) (some (oI j)) s21 s25 s26 s27 s28 s29 s30) (.d (dW (L.take j.toNat))) (GE ns w y a b c s5 s6 s12 (some (oI i)) s16 s17 s18 (some (.d (dW L))) (some (oI j)) s21 s25 s26 s27 s28 s29 s30) := by
    refine ev_slc (ep_var (i := 19) rfl) ei_none (ei_some (l := j) (ev_var rfl)) ?_
    rw [slcf_tup, cut_to _ _ j0 (by omega)]
  have s3 : EV (callF tab (n + 20)) (.slc (.var 19) (some (.op2 .add (.var 20) (.cint 1))) none) (GE ns w y a b c s5 s6 s12 (some (oI i)) s16 s17 s18 (some (.d (dW L))) (some (oI j)) s21 s25 s26 s27 s28 s29 s30) (.d (dW (L.drop (j.toNat + 1)))) (GE ns w y a b c s5 s6 s12 (some (oI i)) s16 s17 s18 (some (.d (dW L))) (some (oI j)) s21 s25 s26 s27 s28 s29 s30) := by
    refine ev_slc (ep_var (i := 19) rfl) (ei_some (l := j + 1) (ev_op2 (ep_var rfl) (ep_d (e := .cint 1) rfl) (op_addI j 1))) ei_none ?_
    rw [slcf_tup, cut_from _ _ (by omega) (by omega), show (j + 1).toNat = j.toNat + 1 from by omega]
  have hdeed : EV (callF tab (n + 20)) (.tup [(.var 13)]) (GE ns w y a b c s5 s6 s12 (some (oI i)) s16 s17 s18 (some (.d (dW L))) (some (oI j)) s21 s25 s26 s27 s28 s29 s30) (.d (dT [i])) (GE ns w y a b c s5 s6 s12 (some (oI i)) s16 s17 s18 (some (.d (dW L))) (some (oI j)) s21 s25 s26 s27 s28 s29 s30) := ev_tup (ds_cons (ev_var (i := 13) rfl) ds_nil) (small_size (show 1 ≤ 100000 by decide))
  have hadd := ev_op2 (op := .add) (ep_d hix) (ep_d hdeed) (opAdd_TT _ _ (by simp; omega))
  have hset := ev_ret (k := 20) (n := n) (s_lset (x := dT (rw' L j.toNat ++ [i])) (rw' L j.toNat ++ [i]) rfl (by rw [List.length_append, List.length_singleton]; omega) (sset_small fun x hx => by
    rcases List.mem_append.mp hx with z | z
    · have := r2 x z
      omega
    · rw [List.mem_singleton.mp z]
      omega)) (by decide) (eps_cons (ep_d hadd) eps_nil)
  have s2 := ev_tup (ds_cons hset ds_nil) (small_size (show 1 ≤ 100000 by decide))
  have a1 := ev_op2 (op := .add) (ep_d s1) (ep_d s2) (opAdd_dTT _ _ (by simp; omega))
  have a2 := ev_op2 (op := .add) (ep_d a1) (ep_d s3) (opAdd_dTT _ _ (by simp; omega))
  have e : dW (twiceW L i j.toNat) = .tuple ((L.take j.toNat).map dT ++ [dT (sset (rw' L j.toNat ++ [i]))] ++ (L.drop (j.toNat + 1)).map dT) := by
    unfold dW twiceW
    rw [List.map_append, List.map_append]
    rfl
  have htl := twice_len (L := L) (deed := i) hjl
  have htb : ∀ ps ∈ twiceW L i j.toNat, ps.length ≤ 300 ∧ ∀ a ∈ ps, 0 ≤ a ∧ a < w.length := fun ps hps => by
    obtain ⟨k, hk⟩ := List.getElem?_of_mem hps
    have hkl : k < L.length := by
      by_cases q : k < L.length
      · exact q
      · rw [List.getElem?_eq_none (by omega)] at hk; cases hk
    have hr := rw_some hk
    rw [twice_get hjl] at hr
    by_cases q : k = j.toNat
    · rw [if_pos q] at hr
      subst hr
      have hb : ∀ a ∈ sset (rw' L j.toNat ++ [i]), 0 ≤ a ∧ a < (w.length : Int) := fun a ha => by
        rcases List.mem_append.mp ((sset_mem _ a).mp ha) with z | z
        · exact r2 a z
        · rw [List.mem_singleton.mp z]
          exact ⟨i0, i1⟩
      have := len_bound _ 0 w.length (sset_lt (rw' L j.toNat ++ [i])) hb
      exact ⟨by omega, hb⟩
    · rw [if_neg q] at hr
      subst hr
      have := row_len g hkl
      exact ⟨by omega, this.2⟩
  have b1 := s_is_lots hy hw (L := twiceW L i j.toNat) (by omega) (fun ps hps => (htb ps hps).1) (fun ps hps => (htb ps hps).2)
  rw [twice_lots g.ok g.ap ⟨i0, i1⟩ hjl] at b1
  have a3 : EV (callF tab (n + 20)) (.op2 .add (.op2 .add (.slc (.var 19) none (some (.var 20))) (.tup [(.call 31 [(.op2 .add (.op2 .ix (.var 19) (.var 20)) (.tup [(.var 13)]))])])) (.slc (.var 19) (some (.op2 .add (.var 20) (.cint 1))) none)) (GE ns w y a b c s5 s6 s12 (some (oI i)) s16 s17 s18 (some (.d (dW L))) (some (oI j)) s21 s25 s26 s27 s28 s29 s30) (.d (dW (twiceW L i j.toNat))) (GE ns w y a b c s5 s6 s12 (some (oI i)) s16 s17 s18 (some (.d (dW L))) (some (oI j)) s21 s25 s26 s27 s28 s29 s30) := by
    rw [e]
    exact a2
  refine ⟨some (.d (dW (twiceW L i j.toNat))), xs_asg a3 ?_⟩
  have p1 := pv_of (ev_ret (k := 20) (n := n) (env := GE ns w y a b c s5 s6 s12 (some (oI i)) s16 s17 s18 (some (.d (dW L))) (some (oI j)) s21 s25 (some (.d (dW (twiceW L i j.toNat)))) s27 s28 s29 s30) b1 (by decide) (es := [.var 9, .var 26]) (eps_cons (ep_var (i := 9) rfl) (eps_cons (ep_var (i := 26) rfl) eps_nil)))
  have p2 := pv_of (ev_op2 (op := .isin) (C := callF tab (n + 20)) (env := GE ns w y a b c s5 s6 s12 (some (oI i)) s16 s17 s18 (some (.d (dW L))) (some (oI j)) s21 s25 (some (.d (dW (twiceW L i j.toNat)))) s27 s28 s29 s30) (ep_var (i := 13) rfl) (ep_d (ix_dW (xs := L) (i := 19) (j := 20) (z := j) rfl rfl rfl j0 (by omega))) (in_int (xs := rw' L j.toNat) i rfl))
  exact xs_ifG (not_same (ev_same (x := .bool (decide (i ∈ rw' L j.toNat))) (k := 1) p1 p2 rfl rfl (.bool 0 _) (by decide))) xs_nil
end
end W02
end

section
set_option Elab.async false
set_option linter.all false
set_option maxRecDepth 100000
/-! k02: the law's own body (5): sets drawn, the end. -/
namespace W02
open PySem L2 PD WM

def lapBody : List IS := match ir_law.body.getD 16 .pass with
  | .fors _ _ b => b
  | _ => []
section
variable {ns : List Int} {w : List (List Int)} {y : D} {a b c : Int} {s5 s6 s12 s13 s16 s17 s18 s19 s20 s21 s25 s26 s27 s28 s29 s30 : Option O}
theorem p_some_e2 (n : Nat) {a1 c1 r : Int} (t1 : Take a b c 4 r a1 c1) : (sem (callF tab (n + 20)) (.op2 .add (.cint 1) (.call 26 [(.var 1), (.cint 4)]))).p (GE ns w y a b c s5 s6 s12 s13 s16 s17 s18 s19 s20 s21 s25 s26 s27 s28 s29 s30) = some (.val (.int (1 + r)), GE ns w y a1 b c1 s5 s6 s12 s13 s16 s17 s18 s19 s20 s21 s25 s26 s27 s28 s29 s30) := by
  have e1 := ev_take (n := n) (k := 20) (i := 1) (e := .cint 4) (env := GE ns w y a b c s5 s6 s12 s13 s16 s17 s18 s19 s20 s21 s25 s26 s27 s28 s29 s30) t1 (by decide) rfl (ep_d rfl)
  have := pv_of (ev_op2F (a := .cint 1) (p := .val (.int 1)) (x := oI 1) (y := oI r) rfl e1 rfl (op_addI 1 r))
  rw [toD_dd] at this
  exact this
theorem p_some_e3 (n : Nat) (hl : w.length ≤ 60) : (sem (callF tab (n + 20)) (.lrng1 (.var 2))).p (GE ns w y a b c s5 s6 s12 s13 s16 s17 s18 s19 s20 s21 s25 s26 s27 s28 s29 s30) = some (.val (dL (upto w.length)), GE ns w y a b c s5 s6 s12 s13 s16 s17 s18 s19 s20 s21 s25 s26 s27 s28 s29 s30) := by
  have := pv_of (ev_lrng1 (C := callF tab (n + 20)) (env := GE ns w y a b c s5 s6 s12 s13 s16 s17 s18 s19 s20 s21 s25 s26 s27 s28 s29 s30) (a := .var 2) (j := (w.length : Nat)) (ep_var rfl) (z := .lst ((upto w.length).map oI)) (lrng_upto hl))
  rw [toD_map PyData.int] at this
  exact this
theorem p_some (n : Nat) {m : Nat} (hl : w.length ≤ 60) (h0 : 0 < w.length) (hu : UrnOk a b c (m + 61)) : ∃ (ds : List Int) (a' c' : Int), ds.Pairwise (· < ·) ∧ (∀ d ∈ ds, 0 ≤ d ∧ d < w.length) ∧ ds ≠ [] ∧ UrnOk a' b c' m ∧ ∀ out, exs (callF tab (n + 20)) [false] (lapBody.drop 1) (GE ns w y a' b c' s5 s6 s12 s13 s16 s17 s18 s19 s20 s21 s25 s26 s27 (some (.d (dT ds))) s29 s30) = out →
    exs (callF tab (n + 20)) [false] lapBody (GE ns w y a b c s5 s6 s12 s13 s16 s17 s18 s19 s20 s21 s25 s26 s27 s28 s29 s30) = out := by
  obtain ⟨r, a1, c1, r0, r1, h1, t1⟩ := take_ok (m := m + 60) hu (low := 4) (by decide) (by decide)
  obtain ⟨found, a2, c2, f1, f2, hf, hfl, hne, hu2, hcall⟩ := s_some (n + 17) h1 (upto w.length) (upto_nodup _) (by rw [upto_len]; exact hl) (1 + r) (by omega)
  have hb : ∀ x ∈ found, 0 ≤ x ∧ x < w.length := fun x hx => upto_mem (hf x hx)
  refine ⟨sset found, a2, c2, sset_lt found, fun d hd => hb d ((sset_mem found d).mp hd), fun z => ?_, hu2, fun out ho => ?_⟩
  · have := hne (by omega) (by rw [upto_len]; exact h0)
    cases found with
    | nil => simp at this
    | cons x l =>
      have := (sset_mem (x :: l) x).mpr List.mem_cons_self
      rw [z] at this
      cases this
  · have hset := s_lset (x := dL found) found rfl (by omega) (sset_small fun x hx => by have := hb x hx; omega)
    have e5 : O.toD (.lst (found.map oI)) = dL found := toD_map PyData.int found
    have hps := ps3 (pv_own (C := callF tab (n + 20)) (i := 1) (env := GE ns w y a b c s5 s6 s12 s13 s16 s17 s18 s19 s20 s21 s25 s26 s27 s28 s29 s30) (os := [oI a, oI b, oI c]) rfl rfl) (p_some_e3 n hl) (p_some_e2 n t1)
    exact xs_asg (ev_call1G (ev_callL hps (os := [oU a1 b c1, .d (dL (upto w.length)), oI (1 + r)]) rfl rfl hcall rfl rfl) (by rw [e5]; exact hset) (by decide)) ho
theorem p_rows (n : Nat) (hw : Web w) {ds : List Int} (hp : ds.Pairwise (· < ·)) (hb : ∀ d ∈ ds, 0 ≤ d ∧ d < w.length) {out : Option Out} (ho : exs (callF tab (n + 20)) [false] (lapBody.drop 3) (GE ns w y a b c s5 (some (oB (lrow w ds))) s12 s13 s16 s17 s18 s19 s20 s21 s25 s26 s27 (some (.d (dT ds))) (some (oB (lapart w ds))) s30) = out) :
    exs (callF tab (n + 20)) [false] (lapBody.drop 1) (GE ns w y a b c s5 s6 s12 s13 s16 s17 s18 s19 s20 s21 s25 s26 s27 (some (.d (dT ds))) s29 s30) = out := by
  have hlen := hw.len
  have hal := ab_len w
  have hdl : ds.length ≤ 60 := by have := len_bound ds 0 w.length hp hb; omega
  refine xs_asg (eqNil (f := PyData.int) (cF (xs := ds) (emb := PyData.int) (p := fun far => !decide ((ds.filter fun near => decide (near ∈ rw' (ab w) far.toNat)) = [])) (f := oI) (es_rowD (i := 28) (x := dT ds) rfl rfl) (fun far hfar => ?_) (fun far _ _ => ev_var rfl) (by omega))) ?_
  · have bd := hb far hfar
    refine et_bl (neNil (f := PyData.int) (cF (xs := ds) (emb := PyData.int) (p := fun near => decide (near ∈ rw' (ab w) far.toNat)) (f := oI) (es_rowD (i := 28) (x := dT ds) rfl rfl) (fun near hnear => ?_) (fun near _ _ => ev_var rfl) (by omega)))
    exact et_bl (ev_op2 (ep_var (i := 7) rfl) (ep_d (ix_oW (w := ab w) (i := 4) (j := 22) (z := far) rfl rfl (by omega) (by omega))) (in_int (xs := rw' (ab w) far.toNat) near rfl))
  · have hz : semS (callF tab (n + 20)) (.zip (.var 28) (.slc (.var 28) (some (.cint 1)) none)) (GE ns w y a b c s5 s6 s12 s13 s16 s17 s18 s19 s20 s21 s25 s26 s27 (some (.d (dT ds))) (some (oB (lapart w ds))) s30) = some ((((ds.zip (ds.drop 1)).map fun p => Item.row [.int p.1, .int p.2]), none), GE ns w y a b c s5 s6 s12 s13 s16 s17 s18 s19 s20 s21 s25 s26 s27 (some (.d (dT ds))) (some (oB (lapart w ds))) s30) := by
      rw [← zipR_ints]
      exact es_zip (ev_var rfl) (ev_slc (ep_var (i := 28) rfl) (ei_some (l := 1) rfl) ei_none (cutD_tail ds (by omega))) rfl
    have hcomp := ev_compM (C := callF tab (n + 20)) (env := GE ns w y a b c s5 s6 s12 s13 s16 s17 s18 s19 s20 s21 s25 s26 s27 (some (.d (dT ds))) (some (oB (lapart w ds))) s30) (elt := .cint 1) (tg := .tup [7, 22]) (src := .zip (.var 28) (.slc (.var 28) (some (.cint 1)) none)) (cond := some (.op2 .notin (.var 7) (.op2 .ix (.var 4) (.var 22)))) (vs := [7, 22]) (xs := ds.zip (ds.drop 1)) (emb := fun p => Item.row [.int p.1, .int p.2]) (w := none) (g := fun p => if (!decide (p.1 ∈ rw' (ab w) p.2.toNat)) = true then [oI 1] else []) hz rfl (fun p hpm => by
      have m2 := (List.of_mem_zip hpm).2
      have bd := hb _ (List.mem_of_mem_drop m2)
      exact turn_if (env1 := ((GE ns w y a b c s5 s6 s12 s13 s16 s17 s18 s19 s20 s21 s25 s26 s27 (some (.d (dT ds))) (some (oB (lapart w ds))) s30).set 7 (some (oI p.1))).set 22 (some (oI p.2))) rfl (et_bl (ev_op2 (ep_var (i := 7) rfl) (ep_d (ix_oW (w := ab w) (i := 4) (j := 22) (z := p.2) rfl rfl bd.1 (by omega))) (nin_int (xs := rw' (ab w) p.2.toNat) p.1 rfl))) (fun _ => rfl) rfl) (by
      rw [flatMap_if (fun p : Int × Int => !decide (p.1 ∈ rw' (ab w) p.2.toNat)) (fun _ => oI 1), List.length_map]
      refine small_size (Nat.le_trans (List.length_filter_le ..) ?_)
      rw [List.length_zip]
      omega) rfl
    rw [flatMap_if (fun p : Int × Int => !decide (p.1 ∈ rw' (ab w) p.2.toNat)) (fun _ => oI 1)] at hcomp
    exact xs_asg (eqNil (f := fun _ : Int × Int => PyData.int 1) hcomp) ho
theorem cut_last (ds : List Int) (hn : ds ≠ []) : cutD ds (some (-1)) none = [ds.getLastD 0] := by
  have hl : 0 < ds.length := List.length_pos_iff.mpr hn
  unfold cutD
  have e1 : HT.sIx ds.length 0 (some (-1)) = ds.length - 1 := by
    unfold HT.sIx
    show (if (-1 : Int) < 0 then (-1 + (ds.length : Int)).toNat else _) = _
    rw [if_pos (by omega)]
    omega
  have e2 : HT.sIx ds.length ds.length none = ds.length := rfl
  rw [e1, e2]
  apply List.ext_getElem?
  intro i
  rw [List.getElem?_take, List.getElem?_drop]
  cases i with
  | zero =>
    rw [if_pos (by omega), List.getLastD_eq_getLast?, List.getLast?_eq_getElem?, Nat.add_zero, List.getElem?_eq_getElem (by omega)]
    rfl
  | succ i =>
    rw [if_neg (by omega)]
    rfl
theorem p_cmp (n : Nat) (hw : Web w) (hy : Soft y w) {ds : List Int} (hp : ds.Pairwise (· < ·)) (hb : ∀ d ∈ ds, 0 ≤ d ∧ d < w.length) (hne : ds ≠ []) : ∃ s16', exs (callF tab (n + 20)) [false] (lapBody.drop 3) (GE ns w y a b c s5 (some (oB (lrow w ds))) s12 s13 s16 s17 s18 s19 s20 s21 s25 s26 s27 (some (.d (dT ds))) (some (oB (lapart w ds))) s30) = some (.nx (GE ns w y a b c s5 (some (oB (lrow w ds))) s12 s13 s16' s17 s18 s19 s20 s21 s25 s26 s27 (some (.d (dT ds))) (some (oB (lapart w ds))) s30)) := by
  have hlen := hw.len
  have hdl : ds.length ≤ 60 := by have := len_bound ds 0 w.length hp hb; omega
  have hpl := path_len hw
  have hd := dl_eq hw
  have hdp := dep_le hw
  have hlast : ds.getLastD 0 ∈ ds := by
    rw [List.getLastD_eq_getLast?, List.getLast?_eq_some_getLast hne]
    exact List.getLast_mem hne
  have b1 := s_apart hy hw (ps := ds) (by omega) hb
  have b2 := s_is_path hy hw (ps := ds) (by omega) hb
  have b3 := s_apart hy hw (ps := ds.reverse) (by rw [List.length_reverse]; omega) fun x hx => hb x (List.mem_reverse.mp hx)
  have b4 := s_is_path hy hw (ps := ds ++ [ds.getLastD 0]) (by rw [List.length_append, List.length_singleton]; omega) fun x hx => (List.mem_append.mp hx).elim (hb x) fun z => by rw [List.mem_singleton.mp z]; exact hb _ hlast
  have b5 := s_is_path hy hw (ps := evens (pathW w)) (by have := evens_lt (pathW w); omega) fun x hx => path_bd hw x (evens_mem _ x hx)
  rw [← lapart_eq hp] at b1
  rw [← lrow_eq] at b2
  rw [apart_rev hp hne] at b3
  rw [path_twice hw hb hne] at b4
  rw [path_evens hw (path_bd hw) (path_path hw)] at b5
  generalize hE : GE ns w y a b c s5 (some (oB (lrow w ds))) s12 s13 s16 s17 s18 s19 s20 s21 s25 s26 s27 (some (.d (dT ds))) (some (oB (lapart w ds))) s30 = E
  have v9 : EP (callF tab (n + 20)) (.var 9) E (.d y) := by subst hE; exact ep_var rfl
  have v28 : EP (callF tab (n + 20)) (.var 28) E (.d (dT ds)) := by subst hE; exact ep_var rfl
  have v10 : EP (callF tab (n + 20)) (.var 10) E (.d (dT (pathW w))) := by subst hE; exact ep_var rfl
  have r1 : EV (callF tab (n + 20)) (.fn .revT [(.var 28)]) E (.d (dT ds.reverse)) E := ev_fn1 v28 (by
    show some (O.d (.tuple (ds.map PyData.int).reverse)) = _
    rw [← List.map_reverse])
  have r2 : EV (callF tab (n + 20)) (.fn .evn [(.var 10)]) E (.d (dT (evens (pathW w)))) E := ev_fn1 v10 (by
    show some (O.d (.tuple (evens ((pathW w).map PyData.int)))) = some (.d (.tuple ((evens (pathW w)).map PyData.int)))
    have gen : ∀ l : List Int, evens (l.map PyData.int) = (evens l).map PyData.int := by
      intro l
      induction l using evens.induct with
      | case1 => rfl
      | case2 x => rfl
      | case3 x y r ih =>
        show PyData.int x :: evens (r.map PyData.int) = PyData.int x :: (evens r).map PyData.int
        rw [ih]
    rw [gen])
  have r3 : EV (callF tab (n + 20)) (.op2 .add (.var 28) (.slc (.var 28) (some (.op1 .neg (.cint 1))) none)) E (.d (dT (ds ++ [ds.getLastD 0]))) E := by
    have hsl : EV (callF tab (n + 20)) (.slc (.var 28) (some (.op1 .neg (.cint 1))) none) E (.d (dT [ds.getLastD 0])) E := ev_slc v28 (ei_some (l := -1) (ev_neg (i := 1) (ep_d rfl))) ei_none (by
      rw [slcf_tup, cut_last ds hne])
    exact ev_op2 v28 (ep_d hsl) (opAdd_TT _ _ (by simp; omega))
  have hgot := ev_lst (vs_cons (ev_ret (k := 20) (n := n) b1 (by decide) (es := [.var 9, .var 28]) (eps_cons v9 (eps_cons v28 eps_nil))) (vs_cons (ev_ret (k := 20) (n := n) b2 (by decide) (es := [.var 9, .var 28]) (eps_cons v9 (eps_cons v28 eps_nil))) (vs_cons (ev_ret (k := 20) (n := n) b3 (by decide) (es := [.var 9, .fn .revT [.var 28]]) (eps_cons v9 (eps_cons (ep_d r1) eps_nil))) (vs_cons (ev_ret (k := 20) (n := n) b4 (by decide) (es := [.var 9, .op2 .add (.var 28) (.slc (.var 28) (some (.op1 .neg (.cint 1))) none)]) (eps_cons v9 (eps_cons (ep_d r3) eps_nil))) (vs_cons (ev_ret (k := 20) (n := n) b5 (by decide) (es := [.var 9, .fn .evn [.var 10]]) (eps_cons v9 (eps_cons (ep_d r2) eps_nil))) vs_nil))))) (small_size (show 5 ≤ 100000 by decide))
  generalize hxs : [PyData.bool (lapart w ds), .bool (lrow w ds), .bool (lapart w ds && decide ((ds.length : Int) = 1)), .bool false, .bool true] = xs at *
  have hgot' : EV (callF tab (n + 20)) (.lst [(.call 17 [(.var 9), (.var 28)]), (.call 15 [(.var 9), (.var 28)]), (.call 17 [(.var 9), (.fn .revT [(.var 28)])]), (.call 15 [(.var 9), (.op2 .add (.var 28) (.slc (.var 28) (some (.op1 .neg (.cint 1))) none))]), (.call 15 [(.var 9), (.fn .evn [(.var 10)])])]) E (.lst (xs.map .d)) E := by
    subst hxs
    exact hgot
  have hdue : EV (callF tab (n + 20)) (.lst [(.var 29), (.var 6), (.and (.var 29) (.op2 .eq (.fn .len [(.var 28)]) (.cint 1))), (.cbl false), (.cbl true)]) (E.set 16 (some (.lst (xs.map .d)))) (.lst (xs.map .d)) (E.set 16 (some (.lst (xs.map .d)))) := by
    subst hE
    have h29 : EV (callF tab (n + 20)) (.var 29) ((GE ns w y a b c s5 (some (oB (lrow w ds))) s12 s13 s16 s17 s18 s19 s20 s21 s25 s26 s27 (some (.d (dT ds))) (some (oB (lapart w ds))) s30).set 16 (some (.lst (xs.map .d)))) (oB (lapart w ds)) ((GE ns w y a b c s5 (some (oB (lrow w ds))) s12 s13 s16 s17 s18 s19 s20 s21 s25 s26 s27 (some (.d (dT ds))) (some (oB (lapart w ds))) s30).set 16 (some (.lst (xs.map .d)))) := ev_var rfl
    have h6 : EV (callF tab (n + 20)) (.var 6) ((GE ns w y a b c s5 (some (oB (lrow w ds))) s12 s13 s16 s17 s18 s19 s20 s21 s25 s26 s27 (some (.d (dT ds))) (some (oB (lapart w ds))) s30).set 16 (some (.lst (xs.map .d)))) (oB (lrow w ds)) ((GE ns w y a b c s5 (some (oB (lrow w ds))) s12 s13 s16 s17 s18 s19 s20 s21 s25 s26 s27 (some (.d (dT ds))) (some (oB (lapart w ds))) s30).set 16 (some (.lst (xs.map .d)))) := ev_var rfl
    have hand := ev_andB h29 fun _ => ev_op2 (op := .eq) (ep_d (ev_fn1 (ep_var (i := 28) rfl) (len_map (f := PyData.int) (xs := ds) rfl))) (ep_d (e := .cint 1) rfl) (eq_int (ds.length : Nat) 1)
    have := ev_lst (vs_cons h29 (vs_cons h6 (vs_cons hand (vs_cons (e := .cbl false) (o := oB false) rfl (vs_cons (e := .cbl true) (o := oB true) rfl vs_nil))))) (small_size (show 5 ≤ 100000 by decide))
    conv at this => rw [show [oB (lapart w ds), oB (lrow w ds), oB (lapart w ds && decide ((ds.length : Int) = 1)), oB false, oB true] = xs.map .d from by subst hxs; rfl]
    exact this
  have hxo : ∀ x ∈ xs, Okd 1 x := by
    subst hxs
    exact all_c (.bool 0 _) (all_c (.bool 0 _) (all_c (.bool 0 _) (all_c (.bool 0 _) (all_c (.bool 0 _) all_n))))
  have hxl : xs.length ≤ 5000 := by subst hxs; simp
  have p1 : (sem (callF tab (n + 20)) (.var 16)).p (E.set 16 (some (.lst (xs.map .d)))) = some (.slot 16, E.set 16 (some (.lst (xs.map .d)))) := pv_own (by subst hE; rfl) (by rw [datas_d]; rfl)
  have p2 := pv_of hdue
  rw [toD_d] at p2
  refine ⟨some (.d (.list xs)), xs_asg hgot' (xs_ifG (not_same (ev_sameL (k := 1) (o1 := .lst (xs.map .d)) (o2 := .d (.list xs)) (.inr rfl) (.inl rfl) p1 p2 (by subst hE; rfl) rfl hxl hxo (by decide) rfl rfl)) ?_)⟩
  subst hE
  exact xs_nil
theorem l_end (n : Nat) (hw : Web w) (hy : Soft y w) : ∃ env, env.length = 31 ∧ exs (callF tab (n + 20)) [false] (ir_law.body.drop 17) (GE ns w y a b c s5 s6 s12 s13 s16 s17 s18 s19 s20 s21 s25 s26 s27 s28 s29 s30) = some (.rt (oB true) env) := by
  have hlen := hw.len
  have hg := good_lots hw
  have hdl := dep_le hw
  have hd := dl_eq hw
  have hgl := hg.len
  have hc : ET (callF tab (n + 20)) (.op2 .gt (.var 2) (.cint 1)) (GE ns w y a b c s5 s6 s12 s13 s16 s17 s18 s19 s20 s21 s25 s26 s27 s28 s29 s30) (decide (1 < (w.length : Int))) := et_bl (ev_op2 (ep_var (i := 2) rfl) (ep_d (e := .cint 1) rfl) (op_gtI _ _))
  have hite : EV (callF tab (n + 20)) (.ite (.op2 .gt (.var 2) (.cint 1)) (.tup [(.cbl true)]) (.tup [(.cbl false)])) (GE ns w y a b c s5 s6 s12 s13 s16 s17 s18 s19 s20 s21 s25 s26 s27 s28 s29 s30) (.d (.tuple [.bool (decide (1 < (w.length : Int)))])) (GE ns w y a b c s5 s6 s12 s13 s16 s17 s18 s19 s20 s21 s25 s26 s27 s28 s29 s30) := by
    refine ev_iteT hc (fun z => ?_) (fun z => ?_)
    · rw [z]
      exact ev_tup (ds_cons (o := oB true) rfl ds_nil) (small_size (show 1 ≤ 100000 by decide))
    · rw [z]
      exact ev_tup (ds_cons (o := oB false) rfl ds_nil) (small_size (show 1 ≤ 100000 by decide))
  have hadd : EV (callF tab (n + 20)) (.op2 .add (.var 14) (.tup [(.tup [])])) (GE ns w y a b c s5 s6 s12 s13 s16 s17 s18 s19 s20 s21 s25 s26 s27 s28 s29 (some (.d (.tuple [.bool (decide (1 < (w.length : Int)))])))) (.d (dW (lotsW w ++ [[]]))) (GE ns w y a b c s5 s6 s12 s13 s16 s17 s18 s19 s20 s21 s25 s26 s27 s28 s29 (some (.d (.tuple [.bool (decide (1 < (w.length : Int)))])))) := by
    have := ev_op2 (op := .add) (C := callF tab (n + 20)) (env := GE ns w y a b c s5 s6 s12 s13 s16 s17 s18 s19 s20 s21 s25 s26 s27 s28 s29 (some (.d (.tuple [.bool (decide (1 < (w.length : Int)))])))) (ep_var (i := 14) (x := dW (lotsW w)) rfl) (ep_d (e := .tup [.tup []]) (d := .tuple [.tuple []]) rfl) (opAdd_dTT _ _ (by simp; omega))
    have e : dW (lotsW w ++ [[]]) = .tuple ((lotsW w).map dT ++ [.tuple []]) := by
      unfold dW
      rw [List.map_append]
      rfl
    rw [e]
    exact this
  have hLb : ∀ ps ∈ lotsW w ++ [[]], ps.length ≤ 300 ∧ ∀ a ∈ ps, 0 ≤ a ∧ a < (w.length : Int) := fun ps hps => by
    rcases List.mem_append.mp hps with z | z
    · have := hg.bd ps z
      exact ⟨by omega, this.2⟩
    · rw [List.mem_singleton.mp z]
      exact ⟨by simp, fun a ha => absurd ha List.not_mem_nil⟩
  have b3 := s_is_lots hy hw (L := lotsW w ++ [[]]) (by rw [List.length_append, List.length_singleton]; omega) (fun ps hps => (hLb ps hps).1) (fun ps hps => (hLb ps hps).2)
  rw [lots_more hg.ok hg.ap] at b3
  have p1 := pv_of (ev_lst (vs_cons (ev_ret (k := 20) (n := n) (env := GE ns w y a b c s5 s6 s12 s13 s16 s17 s18 s19 s20 s21 s25 s26 s27 s28 s29 (some (.d (.tuple [.bool (decide (1 < (w.length : Int)))])))) (s_path_bad hy (decide (1 < (w.length : Int)))) (by decide) (es := [.var 9, .var 30]) (eps_cons (ep_var (i := 9) rfl) (eps_cons (ep_var (i := 30) rfl) eps_nil))) (vs_cons (ev_ret (k := 20) (n := n) (s_apart_bad hy (decide (1 < (w.length : Int)))) (by decide) (es := [.var 9, .var 30]) (eps_cons (ep_var (i := 9) rfl) (eps_cons (ep_var (i := 30) rfl) eps_nil))) (vs_cons (ev_ret (k := 20) (n := n) b3 (by decide) (es := [.var 9, .op2 .add (.var 14) (.tup [.tup []])]) (eps_cons (ep_var (i := 9) rfl) (eps_cons (ep_d hadd) eps_nil))) vs_nil))) (small_size (show 3 ≤ 100000 by decide)))
  have p2 := pv_of (ev_lst (C := callF tab (n + 20)) (env := GE ns w y a b c s5 s6 s12 s13 s16 s17 s18 s19 s20 s21 s25 s26 s27 s28 s29 (some (.d (.tuple [.bool (decide (1 < (w.length : Int)))])))) (vs_cons (e := .cbl false) (o := oB false) rfl (vs_cons (e := .cbl false) (o := oB false) rfl (vs_cons (e := .cbl true) (o := oB true) rfl vs_nil))) (small_size (show 3 ≤ 100000 by decide)))
  refine ⟨_, ?_, xs_asg hite (xs_ret (ev_same (x := .list [.bool false, .bool false, .bool true]) (k := 2) p1 p2 rfl rfl (.list (by simp) (all_c (.bool 0 _) (all_c (.bool 0 _) (all_c (.bool 0 _) all_n)))) (by decide)))⟩
  rfl
end
end W02
end

section
set_option Elab.async false
set_option linter.all false
set_option maxRecDepth 100000
/-! k02: the law's answer. -/
namespace W02
open PySem L2 PD WM

theorem l_own (n : Nat) (ns : List Int) {a b c : Int} {m : Nat} {y : D} {w : List (List Int)} (hw : Web w) (hy : Soft y w) (h0 : 0 < w.length) (hu : UrnOk a b c (m + 10)) {s5 s6 s12 s16 s17 : Option O} : ∃ (a' c' : Int) (t13 t19 t20 t21 t25 t26 : Option O), UrnOk a' b c' m ∧ ∀ out, exs (callF tab (n + 20)) [false] (ir_law.body.drop 16) (GE ns w y a' b c' s5 s6 s12 t13 s16 s17 (some (.d (dW (lateW w)))) t19 t20 t21 t25 t26 none none none none) = out →
    exs (callF tab (n + 20)) [false] (ir_law.body.drop 15) (GE ns w y a b c s5 s6 s12 none s16 s17 (some (.d (dW (lateW w)))) none none none none none none none none none) = out := by
  have hs : evSrcF (callF tab (n + 20)) (.seq (.tup [(.var 14), (.var 18)])) (GE ns w y a b c s5 s6 s12 none s16 s17 (some (.d (dW (lateW w)))) none none none none none none none none none) = some ((([lotsW w, lateW w].map fun L => Item.one (dW L)), none), GE ns w y a b c s5 s6 s12 none s16 s17 (some (.d (dW (lateW w)))) none none none none none none none none none) :=
    es_seq (C := callF tab (n + 20)) (src := .tup [(.var 14), (.var 18)]) (o := .d (.tuple [dW (lotsW w), dW (lateW w)])) (ev_tup (ds_cons (ev_var (i := 14) (x := dW (lotsW w)) (env := GE ns w y a b c s5 s6 s12 none s16 s17 (some (.d (dW (lateW w)))) none none none none none none none none none) rfl) (ds_cons (ev_var (i := 18) (x := dW (lateW w)) rfl) ds_nil)) (small_size (show 2 ≤ 100000 by decide))) (xs := [dW (lotsW w), dW (lateW w)]) rfl
  obtain ⟨env1, h1, a1, c1, t13, t19, t20, t21, t25, t26, hu1, rfl⟩ := for_inv (I := fun k env => ∃ (a' c' : Int) (t13 t19 t20 t21 t25 t26 : Option O), UrnOk a' b c' (m + 10 - 2 * k) ∧ env = GE ns w y a' b c' s5 s6 s12 t13 s16 s17 (some (.d (dW (lateW w)))) t19 t20 t21 t25 t26 none none none none) (f := fun x e => match stTg (.name 19) x e with
      | some e1 => exs (callF tab (n + 20)) [false] ownBody e1
      | none => none) ([lotsW w, lateW w].map fun L => Item.one (dW L)) 0 (GE ns w y a b c s5 s6 s12 none s16 s17 (some (.d (dW (lateW w)))) none none none none none none none none none) ⟨a, c, none, none, none, none, none, none, hu, rfl⟩ fun k it env hk hi => by
    rw [Nat.zero_add] at hi ⊢
    obtain ⟨a1, c1, t13, t19, t20, t21, t25, t26, hu1, rfl⟩ := hi
    have hL : k < 2 ∧ ∃ L, Good w L ∧ it = Item.one (dW L) := by
      match k, hk with
      | 0, hk => cases hk; exact ⟨by omega, _, good_lots hw, rfl⟩
      | 1, hk => cases hk; exact ⟨by omega, _, good_late hw, rfl⟩
      | k + 2, hk => cases hk
    obtain ⟨hk2, L, g, rfl⟩ := hL
    obtain ⟨i, j, a2, c2, i0, i1, j0, j1, hu2, g2⟩ := o_take (ns := ns) (w := w) (y := y) (s5 := s5) (s6 := s6) (s12 := s12) (s13 := t13) (s16 := s16) (s17 := s17) (s18 := some (.d (dW (lateW w)))) (s19 := some (.d (dW L))) (s20 := t20) (s21 := t21) (s25 := t25) (s26 := t26) (s27 := none) (s28 := none) (s29 := none) (s30 := none) n (m := m + 10 - 2 * (k + 1)) hw h0 (hu1.less (by omega))
    have hml : (movedW L i j).length ≤ 60 := by
      have := g.len
      have := dl_eq hw
      have := dep_le hw
      have := hw.len
      unfold movedW
      rw [List.length_map, List.length_range]
      omega
    obtain ⟨t26', g3⟩ := o_twice (ns := ns) (a := a2) (b := b) (c := c2) (s5 := s5) (s6 := s6) (s12 := s12) (s16 := s16) (s17 := s17) (s18 := some (.d (dW (lateW w)))) (s21 := some (.d (dW (movedW L i j)))) (s25 := some (oB (goodB w (movedW L i j)))) (s26 := t26) (s27 := none) (s28 := none) (s29 := none) (s30 := none) n hw hy g i0 i1 j0 j1
    exact ⟨_, o_cmp1 n hw hy h0 g (g2 _ (o_moved n hw g i0 i1 (o_good n hw hml (moved_bd g hw i0 i1) (o_cmp2 n hw hy g i0 i1 j0 j1 g3)))), a2, c2, _, _, _, _, _, _, hu2, rfl⟩
  exact ⟨a1, c1, t13, t19, t20, t21, t25, t26, hu1.less (by simp), fun out ho => xs_for hs h1 ho⟩
theorem l_laps (n : Nat) (ns : List Int) {a b c : Int} {y : D} {w : List (List Int)} (hw : Web w) (hy : Soft y w) (h0 : 0 < w.length) (hu : UrnOk a b c 400) {s5 s6 s12 s13 s16 s17 s18 s19 s20 s21 s25 s26 s27 s28 s29 : Option O} : ∃ env, env.length = 31 ∧ exs (callF tab (n + 20)) [false] (ir_law.body.drop 16) (GE ns w y a b c s5 s6 s12 s13 s16 s17 s18 s19 s20 s21 s25 s26 s27 s28 s29 none) = some (.rt (oB true) env) := by
  have hl := hw.len
  have hs : evSrcF (callF tab (n + 20)) (.rng1 (.cint 5)) (GE ns w y a b c s5 s6 s12 s13 s16 s17 s18 s19 s20 s21 s25 s26 s27 s28 s29 none) = some ((((List.range 5).map fun k => Item.one (.int (k : Nat))), none), GE ns w y a b c s5 s6 s12 s13 s16 s17 s18 s19 s20 s21 s25 s26 s27 s28 s29 none) :=
    es_rngN (C := callF tab (n + 20)) (n := 5) (e := .cint 5) (env := GE ns w y a b c s5 s6 s12 s13 s16 s17 s18 s19 s20 s21 s25 s26 s27 s28 s29 none) rfl (by decide)
  obtain ⟨env1, h1, a1, c1, t6, t16, t27, t28, t29, hu1, rfl⟩ := for_inv (I := fun k env => ∃ (a' c' : Int) (t6 t16 t27 t28 t29 : Option O), UrnOk a' b c' (400 - 61 * k) ∧ env = GE ns w y a' b c' s5 t6 s12 s13 t16 s17 s18 s19 s20 s21 s25 s26 t27 t28 t29 none) (f := fun x e => match stTg (.name 27) x e with
      | some e1 => exs (callF tab (n + 20)) [false] lapBody e1
      | none => none) ((List.range 5).map fun k => Item.one (.int (k : Nat))) 0 (GE ns w y a b c s5 s6 s12 s13 s16 s17 s18 s19 s20 s21 s25 s26 s27 s28 s29 none) ⟨a, c, s6, s16, s27, s28, s29, hu, rfl⟩ fun k it env hk hi => by
    rw [Nat.zero_add] at hi ⊢
    obtain ⟨a1, c1, t6, t16, t27, t28, t29, hu1, rfl⟩ := hi
    have hkc : k < 5 := by
      by_cases q : k < 5
      · exact q
      · rw [List.getElem?_eq_none (by simpa using q)] at hk; cases hk
    rw [List.getElem?_map, List.getElem?_range hkc] at hk
    cases hk
    obtain ⟨ds, a2, c2, hp, hb, hne, hu2, g2⟩ := p_some (ns := ns) (w := w) (y := y) (s5 := s5) (s6 := t6) (s12 := s12) (s13 := s13) (s16 := t16) (s17 := s17) (s18 := s18) (s19 := s19) (s20 := s20) (s21 := s21) (s25 := s25) (s26 := s26) (s27 := some (oI (k : Nat))) (s28 := t28) (s29 := t29) (s30 := none) n (m := 400 - 61 * (k + 1)) hl h0 (hu1.less (by omega))
    obtain ⟨t16', g3⟩ := p_cmp (ns := ns) (a := a2) (b := b) (c := c2) (s5 := s5) (s12 := s12) (s13 := s13) (s16 := t16) (s17 := s17) (s18 := s18) (s19 := s19) (s20 := s20) (s21 := s21) (s25 := s25) (s26 := s26) (s27 := some (oI (k : Nat))) (s30 := none) n hw hy hp hb hne
    exact ⟨_, g2 _ (p_rows n hw hp hb g3), a2, c2, _, _, _, _, _, hu2, rfl⟩
  obtain ⟨env, e1, e2⟩ := l_end (ns := ns) (a := a1) (b := b) (c := c1) (s5 := s5) (s6 := t6) (s12 := s12) (s13 := s13) (s16 := t16) (s17 := s17) (s18 := s18) (s19 := s19) (s20 := s20) (s21 := s21) (s25 := s25) (s26 := s26) (s27 := t27) (s28 := t28) (s29 := t29) (s30 := none) n hw hy
  exact ⟨env, e1, xs_for hs h1 e2⟩
theorem law_ok (ns : List Int) (h : ns.length ≤ 63) : ∃ fin, callF tab 40 37 [.d (.list (ns.map .int))] = some (.d (.bool true), fin) ∧ fin.length = 1 := by
  obtain ⟨a, b, hu, g0⟩ := l_box 19 ns h
  obtain ⟨N, a1, c1, hN, hu1, g1⟩ := l_many 19 ns (m := 900000) (hu.less (by decide))
  obtain ⟨w, a2, c2, hw, hwl, hu2, g2⟩ := l_web 19 ns (m := 800000) (hu1.less (by decide)) N hN
  subst hwl
  obtain ⟨s6, g3⟩ := l_low 19 ns (u := oU a2 b c2) hw
  obtain ⟨y, a3, c3, hy, hu3, g4⟩ := l_soft 19 ns (m := 700000) hw (hu2.less (by decide)) (s6 := s6)
  have base : ∀ {env : PD.Env}, env.length = 31 → exs (callF tab (19 + 20)) [false] (ir_law.body.drop 13) (GE ns w y a3 b c3 (some (.d (dL (lev w)))) s6 (some (.d (dL (slk w)))) none (some (.d (.list (du1 w)))) (some (.d (.list (du1 w)))) none none none none none none none none none none) = some (.rt (oB true) env) → ∃ fin, callF tab 40 37 [.d (.list (ns.map .int))] = some (.d (.bool true), fin) ∧ fin.length = 1 := fun {env} he h1 =>
    ⟨env.take 1, call_rt (n := 39) (r := ir_law) rfl (g0 _ (g1 _ (g2 _ (g3 _ (g4 _ (l_best 19 ns hw (l_free 19 ns hw (l_got 19 hw hy (l_reach 19 hw hy h1))))))))), by rw [List.length_take]; omega⟩
  rcases l_zero (ns := ns) (y := y) (a := a3) (b := b) (c := c3) (s5 := some (.d (dL (lev w)))) (s6 := s6) (s12 := some (.d (dL (slk w)))) (s16 := some (.d (.list (du1 w)))) (s17 := some (.d (.list (du1 w)))) 19 hw with ⟨_, env, he, hz⟩ | ⟨h0, hz⟩
  · exact base he hz
  · obtain ⟨a4, c4, t13, t19, t20, t21, t25, t26, hu4, g5⟩ := l_own 19 ns (m := 600000) hw hy h0 (hu3.less (by decide)) (s5 := some (.d (dL (lev w)))) (s6 := s6) (s12 := some (.d (dL (slk w)))) (s16 := some (.d (.list (du1 w)))) (s17 := some (.d (.list (du1 w))))
    obtain ⟨env, he, h1⟩ := l_laps 19 ns hw hy h0 (hu4.less (by decide)) (s5 := some (.d (dL (lev w)))) (s6 := s6) (s12 := some (.d (dL (slk w)))) (s13 := t13) (s16 := some (.d (.list (du1 w)))) (s17 := some (.d (.list (du1 w)))) (s18 := some (.d (dW (lateW w)))) (s19 := t19) (s20 := t20) (s21 := t21) (s25 := t25) (s26 := t26) (s27 := none) (s28 := none) (s29 := none)
    exact base he (hz _ (l_late 19 hw (g5 _ h1)))
end W02
end

section
set_option Elab.async false
set_option linter.all false
set_option maxRecDepth 100000
set_option maxHeartbeats 2000000
/-! W02: every function keeps its promise. -/
namespace W02
open PySem PySem.Spec PyProof.Rows L2 PD
abbrev FnP (K : PySem.W.Frag) (x : Str) (st : Stmt) (f : Addr) (fd : FuncData) : Prop := FunD K x x (defArgs st) (defBody st) (defScope st) [] [] f fd
structure Fs (K : PySem.W.Frag) (mg : Str → Option Value) (f : Nat → Addr) (fd : Nat → FuncData) : Prop where
  d0 : FnP K "is_number" st_is_number (f 0) (fd 0)
  g0 : mg "is_number" = some (.ref (f 0))
  d1 : FnP K "is_below" st_is_below (f 1) (fd 1)
  g1 : mg "is_below" = some (.ref (f 1))
  d2 : FnP K "is_row" st_is_row (f 2) (fd 2)
  g2 : mg "is_row" = some (.ref (f 2))
  d3 : FnP K "tuple_of" st_tuple_of (f 3) (fd 3)
  g3 : mg "tuple_of" = some (.ref (f 3))
  d4 : FnP K "set_of" st_set_of (f 4) (fd 4)
  g4 : mg "set_of" = some (.ref (f 4))
  d5 : FnP K "web_of" st_web_of (f 5) (fd 5)
  g5 : mg "web_of" = some (.ref (f 5))
  d6 : FnP K "pairs_of" st_pairs_of (f 6) (fd 6)
  g6 : mg "pairs_of" = some (.ref (f 6))
  d7 : FnP K "all_above" st_all_above (f 7) (fd 7)
  g7 : mg "all_above" = some (.ref (f 7))
  d8 : FnP K "all_below" st_all_below (f 8) (fd 8)
  g8 : mg "all_below" = some (.ref (f 8))
  d9 : FnP K "turned" st_turned (f 9) (fd 9)
  g9 : mg "turned" = some (.ref (f 9))
  d10 : FnP K "work" st_work (f 10) (fd 10)
  g10 : mg "work" = some (.ref (f 10))
  d11 : FnP K "levels" st_levels (f 11) (fd 11)
  g11 : mg "levels" = some (.ref (f 11))
  d12 : FnP K "heights" st_heights (f 12) (fd 12)
  g12 : mg "heights" = some (.ref (f 12))
  d13 : FnP K "depth" st_depth (f 13) (fd 13)
  g13 : mg "depth" = some (.ref (f 13))
  d14 : FnP K "longest_path" st_longest_path (f 14) (fd 14)
  g14 : mg "longest_path" = some (.ref (f 14))
  d15 : FnP K "is_path" st_is_path (f 15) (fd 15)
  g15 : mg "is_path" = some (.ref (f 15))
  d16 : FnP K "lots" st_lots (f 16) (fd 16)
  g16 : mg "lots" = some (.ref (f 16))
  d17 : FnP K "is_apart_set" st_is_apart_set (f 17) (fd 17)
  g17 : mg "is_apart_set" = some (.ref (f 17))
  d18 : FnP K "is_lots" st_is_lots (f 18) (fd 18)
  g18 : mg "is_lots" = some (.ref (f 18))
  d19 : FnP K "slack" st_slack (f 19) (fd 19)
  g19 : mg "slack" = some (.ref (f 19))
  d20 : FnP K "must_in_time" st_must_in_time (f 20) (fd 20)
  g20 : mg "must_in_time" = some (.ref (f 20))
  d21 : FnP K "share_of_work" st_share_of_work (f 21) (fd 21)
  g21 : mg "share_of_work" = some (.ref (f 21))
  d22 : FnP K "is_deep_paper" st_is_deep_paper (f 22) (fd 22)
  g22 : mg "is_deep_paper" = some (.ref (f 22))
  d23 : FnP K "deep_paper" st_deep_paper (f 23) (fd 23)
  g23 : mg "deep_paper" = some (.ref (f 23))
  d24 : FnP K "reach" st_reach (f 24) (fd 24)
  g24 : mg "reach" = some (.ref (f 24))
  d25 : FnP K "_law_box" st__law_box (f 25) (fd 25)
  g25 : mg "_law_box" = some (.ref (f 25))
  d26 : FnP K "_law_take" st__law_take (f 26) (fd 26)
  g26 : mg "_law_take" = some (.ref (f 26))
  d27 : FnP K "_law_cells" st__law_cells (f 27) (fd 27)
  g27 : mg "_law_cells" = some (.ref (f 27))
  d28 : FnP K "_law_of" st__law_of (f 28) (fd 28)
  g28 : mg "_law_of" = some (.ref (f 28))
  d29 : FnP K "_law_same" st__law_same (f 29) (fd 29)
  g29 : mg "_law_same" = some (.ref (f 29))
  d30 : FnP K "_law_flat" st__law_flat (f 30) (fd 30)
  g30 : mg "_law_flat" = some (.ref (f 30))
  d31 : FnP K "_law_set" st__law_set (f 31) (fd 31)
  g31 : mg "_law_set" = some (.ref (f 31))
  d32 : FnP K "_law_above" st__law_above (f 32) (fd 32)
  g32 : mg "_law_above" = some (.ref (f 32))
  d33 : FnP K "_law_some" st__law_some (f 33) (fd 33)
  g33 : mg "_law_some" = some (.ref (f 33))
  d34 : FnP K "_law_mixed" st__law_mixed (f 34) (fd 34)
  g34 : mg "_law_mixed" = some (.ref (f 34))
  d35 : FnP K "_law_tall" st__law_tall (f 35) (fd 35)
  g35 : mg "_law_tall" = some (.ref (f 35))
  d36 : FnP K "_law_best_path" st__law_best_path (f 36) (fd 36)
  g36 : mg "_law_best_path" = some (.ref (f 36))
  d37 : FnP K "law" st_law (f 37) (fd 37)
  g37 : mg "law" = some (.ref (f 37))
  len : mg "len" = none
  abs : mg "abs" = none
  int : mg "int" = none
  list : mg "list" = none
  tuple : mg "tuple" = none
  sorted : mg "sorted" = none
  set : mg "set" = none
  sum : mg "sum" = none
  max : mg "max" = none
  min : mg "min" = none
  all : mg "all" = none
  any : mg "any" = none
  range : mg "range" = none
  enumerate : mg "enumerate" = none
  zip : mg "zip" = none
  isinstance : mg "isinstance" = none
  bool : mg "bool" = none
  str : mg "str" = none
section
variable {P : Program} {w : World} {K : PySem.W.Frag} {mg : Str → Option Value} {base : Heap} {f : Nat → Addr} {fd : Nat → FuncData} {n : Nat}
structure Ok (P : Program) (w : World) (K : PySem.W.Frag) (mg : Str → Option Value) (base : Heap) (f : Nat → Addr) (fd : Nat → FuncData) (n : Nat) : Prop where
  o0 : FnOk P w K mg base CX0 n (f 0) (fd 0) P_is_number (SpF K (callF tab n) 0)
  o1 : FnOk P w K mg base CX0 n (f 1) (fd 1) P_is_below (SpF K (callF tab n) 1)
  o2 : FnOk P w K mg base CX0 n (f 2) (fd 2) P_is_row (SpF K (callF tab n) 2)
  o3 : FnOk P w K mg base CX0 n (f 3) (fd 3) P_tuple_of (SpF K (callF tab n) 3)
  o4 : FnOk P w K mg base CX0 n (f 4) (fd 4) P_set_of (SpF K (callF tab n) 4)
  o5 : FnOk P w K mg base CX0 n (f 5) (fd 5) P_web_of (SpF K (callF tab n) 5)
  o6 : FnOk P w K mg base CX0 n (f 6) (fd 6) P_pairs_of (SpF K (callF tab n) 6)
  o7 : FnOk P w K mg base CX0 n (f 7) (fd 7) P_all_above (SpF K (callF tab n) 7)
  o8 : FnOk P w K mg base CX0 n (f 8) (fd 8) P_all_below (SpF K (callF tab n) 8)
  o9 : FnOk P w K mg base CX0 n (f 9) (fd 9) P_turned (SpF K (callF tab n) 9)
  o10 : FnOk P w K mg base CX0 n (f 10) (fd 10) P_work (SpF K (callF tab n) 10)
  o11 : FnOk P w K mg base CX0 n (f 11) (fd 11) P_levels (SpF K (callF tab n) 11)
  o12 : FnOk P w K mg base CX0 n (f 12) (fd 12) P_heights (SpF K (callF tab n) 12)
  o13 : FnOk P w K mg base CX0 n (f 13) (fd 13) P_depth (SpF K (callF tab n) 13)
  o14 : FnOk P w K mg base CX0 n (f 14) (fd 14) P_longest_path (SpF K (callF tab n) 14)
  o15 : FnOk P w K mg base CX0 n (f 15) (fd 15) P_is_path (SpF K (callF tab n) 15)
  o16 : FnOk P w K mg base CX0 n (f 16) (fd 16) P_lots (SpF K (callF tab n) 16)
  o17 : FnOk P w K mg base CX0 n (f 17) (fd 17) P_is_apart_set (SpF K (callF tab n) 17)
  o18 : FnOk P w K mg base CX0 n (f 18) (fd 18) P_is_lots (SpF K (callF tab n) 18)
  o19 : FnOk P w K mg base CX0 n (f 19) (fd 19) P_slack (SpF K (callF tab n) 19)
  o20 : FnOk P w K mg base CX0 n (f 20) (fd 20) P_must_in_time (SpF K (callF tab n) 20)
  o21 : FnOk P w K mg base CX0 n (f 21) (fd 21) P_share_of_work (SpF K (callF tab n) 21)
  o22 : FnOk P w K mg base CX0 n (f 22) (fd 22) P_is_deep_paper (SpF K (callF tab n) 22)
  o23 : FnOk P w K mg base CX0 n (f 23) (fd 23) P_deep_paper (SpF K (callF tab n) 23)
  o24 : FnOk P w K mg base CX0 n (f 24) (fd 24) P_reach (SpF K (callF tab n) 24)
  o25 : FnOk P w K mg base CX0 n (f 25) (fd 25) P__law_box (SpF K (callF tab n) 25)
  o26 : FnOk P w K mg base CX0 n (f 26) (fd 26) P__law_take (SpF K (callF tab n) 26)
  o27 : FnOk P w K mg base CX0 n (f 27) (fd 27) P__law_cells (SpF K (callF tab n) 27)
  o28 : FnOk P w K mg base CX0 n (f 28) (fd 28) P__law_of (SpF K (callF tab n) 28)
  o29 : FnOk P w K mg base CX0 n (f 29) (fd 29) P__law_same (SpF K (callF tab n) 29)
  o30 : FnOk P w K mg base CX0 n (f 30) (fd 30) P__law_flat (SpF K (callF tab n) 30)
  o31 : FnOk P w K mg base CX0 n (f 31) (fd 31) P__law_set (SpF K (callF tab n) 31)
  o32 : FnOk P w K mg base CX0 n (f 32) (fd 32) P__law_above (SpF K (callF tab n) 32)
  o33 : FnOk P w K mg base CX0 n (f 33) (fd 33) P__law_some (SpF K (callF tab n) 33)
  o34 : FnOk P w K mg base CX0 n (f 34) (fd 34) P__law_mixed (SpF K (callF tab n) 34)
  o35 : FnOk P w K mg base CX0 n (f 35) (fd 35) P__law_tall (SpF K (callF tab n) 35)
  o36 : FnOk P w K mg base CX0 n (f 36) (fd 36) P__law_best_path (SpF K (callF tab n) 36)
  o37 : FnOk P w K mg base CX0 n (f 37) (fd 37) P_law (SpF K (callF tab n) 37)
theorem en_of {N : List Str} {A : Around} (D : Fs K mg f fd) (hr : Room n A) (nd : N.Nodup) : En4 true A N mg := ⟨rfl, by have := hr.un; omega, nd, D.len, D.abs, D.int, D.list, D.tuple, D.sorted, D.set, D.sum, D.max, D.min, D.all, D.any, D.range, D.enumerate, D.zip, D.isinstance, D.bool, D.str⟩
theorem ok0 : Ok P w K mg base f fd 0 := ⟨spf0 _, spf0 _, spf0 _, spf0 _, spf0 _, spf0 _, spf0 _, spf0 _, spf0 _, spf0 _, spf0 _, spf0 _, spf0 _, spf0 _, spf0 _, spf0 _, spf0 _, spf0 _, spf0 _, spf0 _, spf0 _, spf0 _, spf0 _, spf0 _, spf0 _, spf0 _, spf0 _, spf0 _, spf0 _, spf0 _, spf0 _, spf0 _, spf0 _, spf0 _, spf0 _, spf0 _, spf0 _, spf0 _⟩
theorem fc_is_number (D : Fs K mg f fd) (O : Ok P w K mg base f fd n) : Fc5 P w K mg base n (SpF K (callF tab n)) 0 "is_number" (f 0) (fd 0) P_is_number := ⟨O.o0, D.g0, D.d0.kp, D.d0.bindsN fun _ _ _ _ _ _ us hl => match us, hl with | [_], _ => rfl⟩
theorem fc_is_below (D : Fs K mg f fd) (O : Ok P w K mg base f fd n) : Fc5 P w K mg base n (SpF K (callF tab n)) 1 "is_below" (f 1) (fd 1) P_is_below := ⟨O.o1, D.g1, D.d1.kp, D.d1.bindsN fun _ _ _ _ _ _ us hl => match us, hl with | [_, _], _ => rfl⟩
theorem fc_is_row (D : Fs K mg f fd) (O : Ok P w K mg base f fd n) : Fc5 P w K mg base n (SpF K (callF tab n)) 2 "is_row" (f 2) (fd 2) P_is_row := ⟨O.o2, D.g2, D.d2.kp, D.d2.bindsN fun _ _ _ _ _ _ us hl => match us, hl with | [_, _], _ => rfl⟩
theorem fc_tuple_of (D : Fs K mg f fd) (O : Ok P w K mg base f fd n) : Fc5 P w K mg base n (SpF K (callF tab n)) 3 "tuple_of" (f 3) (fd 3) P_tuple_of := ⟨O.o3, D.g3, D.d3.kp, D.d3.bindsN fun _ _ _ _ _ _ us hl => match us, hl with | [_], _ => rfl⟩
theorem fc_set_of (D : Fs K mg f fd) (O : Ok P w K mg base f fd n) : Fc5 P w K mg base n (SpF K (callF tab n)) 4 "set_of" (f 4) (fd 4) P_set_of := ⟨O.o4, D.g4, D.d4.kp, D.d4.bindsN fun _ _ _ _ _ _ us hl => match us, hl with | [_], _ => rfl⟩
theorem fc_web_of (D : Fs K mg f fd) (O : Ok P w K mg base f fd n) : Fc5 P w K mg base n (SpF K (callF tab n)) 5 "web_of" (f 5) (fd 5) P_web_of := ⟨O.o5, D.g5, D.d5.kp, D.d5.bindsN fun _ _ _ _ _ _ us hl => match us, hl with | [_, _], _ => rfl⟩
theorem fc_pairs_of (D : Fs K mg f fd) (O : Ok P w K mg base f fd n) : Fc5 P w K mg base n (SpF K (callF tab n)) 6 "pairs_of" (f 6) (fd 6) P_pairs_of := ⟨O.o6, D.g6, D.d6.kp, D.d6.bindsN fun _ _ _ _ _ _ us hl => match us, hl with | [_], _ => rfl⟩
theorem fc_all_above (D : Fs K mg f fd) (O : Ok P w K mg base f fd n) : Fc5 P w K mg base n (SpF K (callF tab n)) 7 "all_above" (f 7) (fd 7) P_all_above := ⟨O.o7, D.g7, D.d7.kp, D.d7.bindsN fun _ _ _ _ _ _ us hl => match us, hl with | [_], _ => rfl⟩
theorem fc_all_below (D : Fs K mg f fd) (O : Ok P w K mg base f fd n) : Fc5 P w K mg base n (SpF K (callF tab n)) 8 "all_below" (f 8) (fd 8) P_all_below := ⟨O.o8, D.g8, D.d8.kp, D.d8.bindsN fun _ _ _ _ _ _ us hl => match us, hl with | [_], _ => rfl⟩
theorem fc_turned (D : Fs K mg f fd) (O : Ok P w K mg base f fd n) : Fc5 P w K mg base n (SpF K (callF tab n)) 9 "turned" (f 9) (fd 9) P_turned := ⟨O.o9, D.g9, D.d9.kp, D.d9.bindsN fun _ _ _ _ _ _ us hl => match us, hl with | [_], _ => rfl⟩
theorem fc_work (D : Fs K mg f fd) (O : Ok P w K mg base f fd n) : Fc5 P w K mg base n (SpF K (callF tab n)) 10 "work" (f 10) (fd 10) P_work := ⟨O.o10, D.g10, D.d10.kp, D.d10.bindsN fun _ _ _ _ _ _ us hl => match us, hl with | [_], _ => rfl⟩
theorem fc_levels (D : Fs K mg f fd) (O : Ok P w K mg base f fd n) : Fc5 P w K mg base n (SpF K (callF tab n)) 11 "levels" (f 11) (fd 11) P_levels := ⟨O.o11, D.g11, D.d11.kp, D.d11.bindsN fun _ _ _ _ _ _ us hl => match us, hl with | [_], _ => rfl⟩
theorem fc_heights (D : Fs K mg f fd) (O : Ok P w K mg base f fd n) : Fc5 P w K mg base n (SpF K (callF tab n)) 12 "heights" (f 12) (fd 12) P_heights := ⟨O.o12, D.g12, D.d12.kp, D.d12.bindsN fun _ _ _ _ _ _ us hl => match us, hl with | [_], _ => rfl⟩
theorem fc_depth (D : Fs K mg f fd) (O : Ok P w K mg base f fd n) : Fc5 P w K mg base n (SpF K (callF tab n)) 13 "depth" (f 13) (fd 13) P_depth := ⟨O.o13, D.g13, D.d13.kp, D.d13.bindsN fun _ _ _ _ _ _ us hl => match us, hl with | [_], _ => rfl⟩
theorem fc_longest_path (D : Fs K mg f fd) (O : Ok P w K mg base f fd n) : Fc5 P w K mg base n (SpF K (callF tab n)) 14 "longest_path" (f 14) (fd 14) P_longest_path := ⟨O.o14, D.g14, D.d14.kp, D.d14.bindsN fun _ _ _ _ _ _ us hl => match us, hl with | [_], _ => rfl⟩
theorem fc_is_path (D : Fs K mg f fd) (O : Ok P w K mg base f fd n) : Fc5 P w K mg base n (SpF K (callF tab n)) 15 "is_path" (f 15) (fd 15) P_is_path := ⟨O.o15, D.g15, D.d15.kp, D.d15.bindsN fun _ _ _ _ _ _ us hl => match us, hl with | [_, _], _ => rfl⟩
theorem fc_lots (D : Fs K mg f fd) (O : Ok P w K mg base f fd n) : Fc5 P w K mg base n (SpF K (callF tab n)) 16 "lots" (f 16) (fd 16) P_lots := ⟨O.o16, D.g16, D.d16.kp, D.d16.bindsN fun _ _ _ _ _ _ us hl => match us, hl with | [_], _ => rfl⟩
theorem fc_is_apart_set (D : Fs K mg f fd) (O : Ok P w K mg base f fd n) : Fc5 P w K mg base n (SpF K (callF tab n)) 17 "is_apart_set" (f 17) (fd 17) P_is_apart_set := ⟨O.o17, D.g17, D.d17.kp, D.d17.bindsN fun _ _ _ _ _ _ us hl => match us, hl with | [_, _], _ => rfl⟩
theorem fc_is_lots (D : Fs K mg f fd) (O : Ok P w K mg base f fd n) : Fc5 P w K mg base n (SpF K (callF tab n)) 18 "is_lots" (f 18) (fd 18) P_is_lots := ⟨O.o18, D.g18, D.d18.kp, D.d18.bindsN fun _ _ _ _ _ _ us hl => match us, hl with | [_, _], _ => rfl⟩
theorem fc_slack (D : Fs K mg f fd) (O : Ok P w K mg base f fd n) : Fc5 P w K mg base n (SpF K (callF tab n)) 19 "slack" (f 19) (fd 19) P_slack := ⟨O.o19, D.g19, D.d19.kp, D.d19.bindsN fun _ _ _ _ _ _ us hl => match us, hl with | [_], _ => rfl⟩
theorem fc_must_in_time (D : Fs K mg f fd) (O : Ok P w K mg base f fd n) : Fc5 P w K mg base n (SpF K (callF tab n)) 20 "must_in_time" (f 20) (fd 20) P_must_in_time := ⟨O.o20, D.g20, D.d20.kp, D.d20.bindsN fun _ _ _ _ _ _ us hl => match us, hl with | [_], _ => rfl⟩
theorem fc_share_of_work (D : Fs K mg f fd) (O : Ok P w K mg base f fd n) : Fc5 P w K mg base n (SpF K (callF tab n)) 21 "share_of_work" (f 21) (fd 21) P_share_of_work := ⟨O.o21, D.g21, D.d21.kp, D.d21.bindsN fun _ _ _ _ _ _ us hl => match us, hl with | [_], _ => rfl⟩
theorem fc_is_deep_paper (D : Fs K mg f fd) (O : Ok P w K mg base f fd n) : Fc5 P w K mg base n (SpF K (callF tab n)) 22 "is_deep_paper" (f 22) (fd 22) P_is_deep_paper := ⟨O.o22, D.g22, D.d22.kp, D.d22.bindsN fun _ _ _ _ _ _ us hl => match us, hl with | [_, _], _ => rfl⟩
theorem fc_deep_paper (D : Fs K mg f fd) (O : Ok P w K mg base f fd n) : Fc5 P w K mg base n (SpF K (callF tab n)) 23 "deep_paper" (f 23) (fd 23) P_deep_paper := ⟨O.o23, D.g23, D.d23.kp, D.d23.bindsN fun _ _ _ _ _ _ us hl => match us, hl with | [_], _ => rfl⟩
theorem fc_reach (D : Fs K mg f fd) (O : Ok P w K mg base f fd n) : Fc5 P w K mg base n (SpF K (callF tab n)) 24 "reach" (f 24) (fd 24) P_reach := ⟨O.o24, D.g24, D.d24.kp, D.d24.bindsN fun _ _ _ _ _ _ us hl => match us, hl with | [_], _ => rfl⟩
theorem fc__law_box (D : Fs K mg f fd) (O : Ok P w K mg base f fd n) : Fc5 P w K mg base n (SpF K (callF tab n)) 25 "_law_box" (f 25) (fd 25) P__law_box := ⟨O.o25, D.g25, D.d25.kp, D.d25.bindsN fun _ _ _ _ _ _ us hl => match us, hl with | [_, _], _ => rfl⟩
theorem fc__law_take (D : Fs K mg f fd) (O : Ok P w K mg base f fd n) : Fc5 P w K mg base n (SpF K (callF tab n)) 26 "_law_take" (f 26) (fd 26) P__law_take := ⟨O.o26, D.g26, D.d26.kp, D.d26.bindsN fun _ _ _ _ _ _ us hl => match us, hl with | [_, _], _ => rfl⟩
theorem fc__law_cells (D : Fs K mg f fd) (O : Ok P w K mg base f fd n) : Fc5 P w K mg base n (SpF K (callF tab n)) 27 "_law_cells" (f 27) (fd 27) P__law_cells := ⟨O.o27, D.g27, D.d27.kp, D.d27.bindsN fun _ _ _ _ _ _ us hl => match us, hl with | [_, _], _ => rfl⟩
theorem fc__law_of (D : Fs K mg f fd) (O : Ok P w K mg base f fd n) : Fc5 P w K mg base n (SpF K (callF tab n)) 28 "_law_of" (f 28) (fd 28) P__law_of := ⟨O.o28, D.g28, D.d28.kp, D.d28.bindsN fun _ _ _ _ _ _ us hl => match us, hl with | [_, _], _ => rfl⟩
theorem fc__law_same (D : Fs K mg f fd) (O : Ok P w K mg base f fd n) : Fc5 P w K mg base n (SpF K (callF tab n)) 29 "_law_same" (f 29) (fd 29) P__law_same := ⟨O.o29, D.g29, D.d29.kp, D.d29.bindsN fun _ _ _ _ _ _ us hl => match us, hl with | [_, _], _ => rfl⟩
theorem fc__law_flat (D : Fs K mg f fd) (O : Ok P w K mg base f fd n) : Fc5 P w K mg base n (SpF K (callF tab n)) 30 "_law_flat" (f 30) (fd 30) P__law_flat := ⟨O.o30, D.g30, D.d30.kp, D.d30.bindsN fun _ _ _ _ _ _ us hl => match us, hl with | [_], _ => rfl⟩
theorem fc__law_set (D : Fs K mg f fd) (O : Ok P w K mg base f fd n) : Fc5 P w K mg base n (SpF K (callF tab n)) 31 "_law_set" (f 31) (fd 31) P__law_set := ⟨O.o31, D.g31, D.d31.kp, D.d31.bindsN fun _ _ _ _ _ _ us hl => match us, hl with | [_], _ => rfl⟩
theorem fc__law_above (D : Fs K mg f fd) (O : Ok P w K mg base f fd n) : Fc5 P w K mg base n (SpF K (callF tab n)) 32 "_law_above" (f 32) (fd 32) P__law_above := ⟨O.o32, D.g32, D.d32.kp, D.d32.bindsN fun _ _ _ _ _ _ us hl => match us, hl with | [_], _ => rfl⟩
theorem fc__law_some (D : Fs K mg f fd) (O : Ok P w K mg base f fd n) : Fc5 P w K mg base n (SpF K (callF tab n)) 33 "_law_some" (f 33) (fd 33) P__law_some := ⟨O.o33, D.g33, D.d33.kp, D.d33.bindsN fun _ _ _ _ _ _ us hl => match us, hl with | [_, _, _], _ => rfl⟩
theorem fc__law_mixed (D : Fs K mg f fd) (O : Ok P w K mg base f fd n) : Fc5 P w K mg base n (SpF K (callF tab n)) 34 "_law_mixed" (f 34) (fd 34) P__law_mixed := ⟨O.o34, D.g34, D.d34.kp, D.d34.bindsN fun _ _ _ _ _ _ us hl => match us, hl with | [_, _], _ => rfl⟩
theorem fc__law_tall (D : Fs K mg f fd) (O : Ok P w K mg base f fd n) : Fc5 P w K mg base n (SpF K (callF tab n)) 35 "_law_tall" (f 35) (fd 35) P__law_tall := ⟨O.o35, D.g35, D.d35.kp, D.d35.bindsN fun _ _ _ _ _ _ us hl => match us, hl with | [_, _], _ => rfl⟩
theorem fc__law_best_path (D : Fs K mg f fd) (O : Ok P w K mg base f fd n) : Fc5 P w K mg base n (SpF K (callF tab n)) 36 "_law_best_path" (f 36) (fd 36) P__law_best_path := ⟨O.o36, D.g36, D.d36.kp, D.d36.bindsN fun _ _ _ _ _ _ us hl => match us, hl with | [_, _], _ => rfl⟩
theorem fc_law (D : Fs K mg f fd) (O : Ok P w K mg base f fd n) : Fc5 P w K mg base n (SpF K (callF tab n)) 37 "law" (f 37) (fd 37) P_law := ⟨O.o37, D.g37, D.d37.kp, D.d37.bindsN fun _ _ _ _ _ _ us hl => match us, hl with | [_], _ => rfl⟩
theorem ok_is_number (D : Fs K mg f fd) (O : Ok P w K mg base f fd n) : FnOk P w K mg base CX0 (n + 1) (f 0) (fd 0) P_is_number (SpF K (callF tab (n + 1)) 0) := by
  refine D.d0.ok sc_is_number (fun vs H Q E h => spf_len (c := ⟨K, w, SpF K (callF tab n)⟩) (r := ir_is_number) rfl h) (fun cdv A outer s H vs Q E hr h => ⟨_, PSs.nox (w_is_number (sp := SpF K (callF tab n)) hr (en_of D hr sc_is_number.nd) ), ?_⟩)
  exact spf_body (c := ⟨K, w, SpF K (callF tab n)⟩) (r := ir_is_number) rfl (fun _ => rfl) (N := N_is_number) rfl h
theorem ok_is_below (D : Fs K mg f fd) (O : Ok P w K mg base f fd n) : FnOk P w K mg base CX0 (n + 1) (f 1) (fd 1) P_is_below (SpF K (callF tab (n + 1)) 1) := by
  refine D.d1.ok sc_is_below (fun vs H Q E h => spf_len (c := ⟨K, w, SpF K (callF tab n)⟩) (r := ir_is_below) rfl h) (fun cdv A outer s H vs Q E hr h => ⟨_, PSs.nox (w_is_below (sp := SpF K (callF tab n)) hr (en_of D hr sc_is_below.nd) (fc_is_number D O)), ?_⟩)
  exact spf_body (c := ⟨K, w, SpF K (callF tab n)⟩) (r := ir_is_below) rfl (fun _ => rfl) (N := N_is_below) rfl h
theorem ok_is_row (D : Fs K mg f fd) (O : Ok P w K mg base f fd n) : FnOk P w K mg base CX0 (n + 1) (f 2) (fd 2) P_is_row (SpF K (callF tab (n + 1)) 2) := by
  refine D.d2.ok sc_is_row (fun vs H Q E h => spf_len (c := ⟨K, w, SpF K (callF tab n)⟩) (r := ir_is_row) rfl h) (fun cdv A outer s H vs Q E hr h => ⟨_, PSs.nox (w_is_row (sp := SpF K (callF tab n)) hr (en_of D hr sc_is_row.nd) ), ?_⟩)
  exact spf_body (c := ⟨K, w, SpF K (callF tab n)⟩) (r := ir_is_row) rfl (fun _ => rfl) (N := N_is_row) rfl h
theorem ok_tuple_of (D : Fs K mg f fd) (O : Ok P w K mg base f fd n) : FnOk P w K mg base CX0 (n + 1) (f 3) (fd 3) P_tuple_of (SpF K (callF tab (n + 1)) 3) := by
  refine D.d3.ok sc_tuple_of (fun vs H Q E h => spf_len (c := ⟨K, w, SpF K (callF tab n)⟩) (r := ir_tuple_of) rfl h) (fun cdv A outer s H vs Q E hr h => ⟨_, PSs.nox (w_tuple_of (sp := SpF K (callF tab n)) hr (en_of D hr sc_tuple_of.nd) (fc_tuple_of D O)), ?_⟩)
  exact spf_body (c := ⟨K, w, SpF K (callF tab n)⟩) (r := ir_tuple_of) rfl (fun _ => rfl) (N := N_tuple_of) rfl h
theorem ok_set_of (D : Fs K mg f fd) (O : Ok P w K mg base f fd n) : FnOk P w K mg base CX0 (n + 1) (f 4) (fd 4) P_set_of (SpF K (callF tab (n + 1)) 4) := by
  refine D.d4.ok sc_set_of (fun vs H Q E h => spf_len (c := ⟨K, w, SpF K (callF tab n)⟩) (r := ir_set_of) rfl h) (fun cdv A outer s H vs Q E hr h => ⟨_, PSs.nox (w_set_of (sp := SpF K (callF tab n)) hr (en_of D hr sc_set_of.nd) ), ?_⟩)
  exact spf_body (c := ⟨K, w, SpF K (callF tab n)⟩) (r := ir_set_of) rfl (fun _ => rfl) (N := N_set_of) rfl h
theorem ok_web_of (D : Fs K mg f fd) (O : Ok P w K mg base f fd n) : FnOk P w K mg base CX0 (n + 1) (f 5) (fd 5) P_web_of (SpF K (callF tab (n + 1)) 5) := by
  refine D.d5.ok sc_web_of (fun vs H Q E h => spf_len (c := ⟨K, w, SpF K (callF tab n)⟩) (r := ir_web_of) rfl h) (fun cdv A outer s H vs Q E hr h => ⟨_, PSs.nox (w_web_of (sp := SpF K (callF tab n)) hr (en_of D hr sc_web_of.nd) (fc_is_below D O) (fc_set_of D O)), ?_⟩)
  exact spf_body (c := ⟨K, w, SpF K (callF tab n)⟩) (r := ir_web_of) rfl (fun _ => rfl) (N := N_web_of) rfl h
theorem ok_pairs_of (D : Fs K mg f fd) (O : Ok P w K mg base f fd n) : FnOk P w K mg base CX0 (n + 1) (f 6) (fd 6) P_pairs_of (SpF K (callF tab (n + 1)) 6) := by
  refine D.d6.ok sc_pairs_of (fun vs H Q E h => spf_len (c := ⟨K, w, SpF K (callF tab n)⟩) (r := ir_pairs_of) rfl h) (fun cdv A outer s H vs Q E hr h => ⟨_, PSs.nox (w_pairs_of (sp := SpF K (callF tab n)) hr (en_of D hr sc_pairs_of.nd) ), ?_⟩)
  exact spf_body (c := ⟨K, w, SpF K (callF tab n)⟩) (r := ir_pairs_of) rfl (fun _ => rfl) (N := N_pairs_of) rfl h
theorem ok_all_above (D : Fs K mg f fd) (O : Ok P w K mg base f fd n) : FnOk P w K mg base CX0 (n + 1) (f 7) (fd 7) P_all_above (SpF K (callF tab (n + 1)) 7) := by
  refine D.d7.ok sc_all_above (fun vs H Q E h => spf_len (c := ⟨K, w, SpF K (callF tab n)⟩) (r := ir_all_above) rfl h) (fun cdv A outer s H vs Q E hr h => ⟨_, PSs.nox (w_all_above (sp := SpF K (callF tab n)) hr (en_of D hr sc_all_above.nd) (fc_tuple_of D O) (fc_set_of D O)), ?_⟩)
  exact spf_body (c := ⟨K, w, SpF K (callF tab n)⟩) (r := ir_all_above) rfl (fun _ => rfl) (N := N_all_above) rfl h
theorem ok_all_below (D : Fs K mg f fd) (O : Ok P w K mg base f fd n) : FnOk P w K mg base CX0 (n + 1) (f 8) (fd 8) P_all_below (SpF K (callF tab (n + 1)) 8) := by
  refine D.d8.ok sc_all_below (fun vs H Q E h => spf_len (c := ⟨K, w, SpF K (callF tab n)⟩) (r := ir_all_below) rfl h) (fun cdv A outer s H vs Q E hr h => ⟨_, PSs.nox (w_all_below (sp := SpF K (callF tab n)) hr (en_of D hr sc_all_below.nd) (fc_all_above D O)), ?_⟩)
  exact spf_body (c := ⟨K, w, SpF K (callF tab n)⟩) (r := ir_all_below) rfl (fun _ => rfl) (N := N_all_below) rfl h
theorem ok_turned (D : Fs K mg f fd) (O : Ok P w K mg base f fd n) : FnOk P w K mg base CX0 (n + 1) (f 9) (fd 9) P_turned (SpF K (callF tab (n + 1)) 9) := by
  refine D.d9.ok sc_turned (fun vs H Q E h => spf_len (c := ⟨K, w, SpF K (callF tab n)⟩) (r := ir_turned) rfl h) (fun cdv A outer s H vs Q E hr h => ⟨_, PSs.nox (w_turned (sp := SpF K (callF tab n)) hr (en_of D hr sc_turned.nd) (fc_tuple_of D O) (fc_web_of D O) (fc_pairs_of D O)), ?_⟩)
  exact spf_body (c := ⟨K, w, SpF K (callF tab n)⟩) (r := ir_turned) rfl (fun _ => rfl) (N := N_turned) rfl h
theorem ok_work (D : Fs K mg f fd) (O : Ok P w K mg base f fd n) : FnOk P w K mg base CX0 (n + 1) (f 10) (fd 10) P_work (SpF K (callF tab (n + 1)) 10) := by
  refine D.d10.ok sc_work (fun vs H Q E h => spf_len (c := ⟨K, w, SpF K (callF tab n)⟩) (r := ir_work) rfl h) (fun cdv A outer s H vs Q E hr h => ⟨_, PSs.nox (w_work (sp := SpF K (callF tab n)) hr (en_of D hr sc_work.nd) ), ?_⟩)
  exact spf_body (c := ⟨K, w, SpF K (callF tab n)⟩) (r := ir_work) rfl (fun _ => rfl) (N := N_work) rfl h
theorem ok_levels (D : Fs K mg f fd) (O : Ok P w K mg base f fd n) : FnOk P w K mg base CX0 (n + 1) (f 11) (fd 11) P_levels (SpF K (callF tab (n + 1)) 11) := by
  refine D.d11.ok sc_levels (fun vs H Q E h => spf_len (c := ⟨K, w, SpF K (callF tab n)⟩) (r := ir_levels) rfl h) (fun cdv A outer s H vs Q E hr h => ⟨_, PSs.nox (w_levels (sp := SpF K (callF tab n)) hr (en_of D hr sc_levels.nd) (fc_tuple_of D O)), ?_⟩)
  exact spf_body (c := ⟨K, w, SpF K (callF tab n)⟩) (r := ir_levels) rfl (fun _ => rfl) (N := N_levels) rfl h
theorem ok_heights (D : Fs K mg f fd) (O : Ok P w K mg base f fd n) : FnOk P w K mg base CX0 (n + 1) (f 12) (fd 12) P_heights (SpF K (callF tab (n + 1)) 12) := by
  refine D.d12.ok sc_heights (fun vs H Q E h => spf_len (c := ⟨K, w, SpF K (callF tab n)⟩) (r := ir_heights) rfl h) (fun cdv A outer s H vs Q E hr h => ⟨_, PSs.nox (w_heights (sp := SpF K (callF tab n)) hr (en_of D hr sc_heights.nd) (fc_turned D O) (fc_levels D O)), ?_⟩)
  exact spf_body (c := ⟨K, w, SpF K (callF tab n)⟩) (r := ir_heights) rfl (fun _ => rfl) (N := N_heights) rfl h
theorem ok_depth (D : Fs K mg f fd) (O : Ok P w K mg base f fd n) : FnOk P w K mg base CX0 (n + 1) (f 13) (fd 13) P_depth (SpF K (callF tab (n + 1)) 13) := by
  refine D.d13.ok sc_depth (fun vs H Q E h => spf_len (c := ⟨K, w, SpF K (callF tab n)⟩) (r := ir_depth) rfl h) (fun cdv A outer s H vs Q E hr h => ⟨_, PSs.nox (w_depth (sp := SpF K (callF tab n)) hr (en_of D hr sc_depth.nd) (fc_levels D O)), ?_⟩)
  exact spf_body (c := ⟨K, w, SpF K (callF tab n)⟩) (r := ir_depth) rfl (fun _ => rfl) (N := N_depth) rfl h
theorem ok_longest_path (D : Fs K mg f fd) (O : Ok P w K mg base f fd n) : FnOk P w K mg base CX0 (n + 1) (f 14) (fd 14) P_longest_path (SpF K (callF tab (n + 1)) 14) := by
  refine D.d14.ok sc_longest_path (fun vs H Q E h => spf_len (c := ⟨K, w, SpF K (callF tab n)⟩) (r := ir_longest_path) rfl h) (fun cdv A outer s H vs Q E hr h => ⟨_, PSs.nox (w_longest_path (sp := SpF K (callF tab n)) hr (en_of D hr sc_longest_path.nd) (fc_levels D O) (fc_heights D O) (fc_depth D O)), ?_⟩)
  exact spf_body (c := ⟨K, w, SpF K (callF tab n)⟩) (r := ir_longest_path) rfl (fun _ => rfl) (N := N_longest_path) rfl h
theorem ok_is_path (D : Fs K mg f fd) (O : Ok P w K mg base f fd n) : FnOk P w K mg base CX0 (n + 1) (f 15) (fd 15) P_is_path (SpF K (callF tab (n + 1)) 15) := by
  refine D.d15.ok sc_is_path (fun vs H Q E h => spf_len (c := ⟨K, w, SpF K (callF tab n)⟩) (r := ir_is_path) rfl h) (fun cdv A outer s H vs Q E hr h => ⟨_, PSs.nox (w_is_path (sp := SpF K (callF tab n)) hr (en_of D hr sc_is_path.nd) (fc_is_below D O) (fc_all_above D O)), ?_⟩)
  exact spf_body (c := ⟨K, w, SpF K (callF tab n)⟩) (r := ir_is_path) rfl (fun _ => rfl) (N := N_is_path) rfl h
theorem ok_lots (D : Fs K mg f fd) (O : Ok P w K mg base f fd n) : FnOk P w K mg base CX0 (n + 1) (f 16) (fd 16) P_lots (SpF K (callF tab (n + 1)) 16) := by
  refine D.d16.ok sc_lots (fun vs H Q E h => spf_len (c := ⟨K, w, SpF K (callF tab n)⟩) (r := ir_lots) rfl h) (fun cdv A outer s H vs Q E hr h => ⟨_, PSs.nox (w_lots (sp := SpF K (callF tab n)) hr (en_of D hr sc_lots.nd) (fc_levels D O) (fc_depth D O)), ?_⟩)
  exact spf_body (c := ⟨K, w, SpF K (callF tab n)⟩) (r := ir_lots) rfl (fun _ => rfl) (N := N_lots) rfl h
theorem ok_is_apart_set (D : Fs K mg f fd) (O : Ok P w K mg base f fd n) : FnOk P w K mg base CX0 (n + 1) (f 17) (fd 17) P_is_apart_set (SpF K (callF tab (n + 1)) 17) := by
  refine D.d17.ok sc_is_apart_set (fun vs H Q E h => spf_len (c := ⟨K, w, SpF K (callF tab n)⟩) (r := ir_is_apart_set) rfl h) (fun cdv A outer s H vs Q E hr h => ⟨_, PSs.nox (w_is_apart_set (sp := SpF K (callF tab n)) hr (en_of D hr sc_is_apart_set.nd) (fc_is_below D O) (fc_set_of D O) (fc_all_above D O)), ?_⟩)
  exact spf_body (c := ⟨K, w, SpF K (callF tab n)⟩) (r := ir_is_apart_set) rfl (fun _ => rfl) (N := N_is_apart_set) rfl h
theorem ok_is_lots (D : Fs K mg f fd) (O : Ok P w K mg base f fd n) : FnOk P w K mg base CX0 (n + 1) (f 18) (fd 18) P_is_lots (SpF K (callF tab (n + 1)) 18) := by
  refine D.d18.ok sc_is_lots (fun vs H Q E h => spf_len (c := ⟨K, w, SpF K (callF tab n)⟩) (r := ir_is_lots) rfl h) (fun cdv A outer s H vs Q E hr h => ⟨_, PSs.nox (w_is_lots (sp := SpF K (callF tab n)) hr (en_of D hr sc_is_lots.nd) (fc_is_apart_set D O)), ?_⟩)
  exact spf_body (c := ⟨K, w, SpF K (callF tab n)⟩) (r := ir_is_lots) rfl (fun _ => rfl) (N := N_is_lots) rfl h
theorem ok_slack (D : Fs K mg f fd) (O : Ok P w K mg base f fd n) : FnOk P w K mg base CX0 (n + 1) (f 19) (fd 19) P_slack (SpF K (callF tab (n + 1)) 19) := by
  refine D.d19.ok sc_slack (fun vs H Q E h => spf_len (c := ⟨K, w, SpF K (callF tab n)⟩) (r := ir_slack) rfl h) (fun cdv A outer s H vs Q E hr h => ⟨_, PSs.nox (w_slack (sp := SpF K (callF tab n)) hr (en_of D hr sc_slack.nd) (fc_levels D O) (fc_heights D O) (fc_depth D O)), ?_⟩)
  exact spf_body (c := ⟨K, w, SpF K (callF tab n)⟩) (r := ir_slack) rfl (fun _ => rfl) (N := N_slack) rfl h
theorem ok_must_in_time (D : Fs K mg f fd) (O : Ok P w K mg base f fd n) : FnOk P w K mg base CX0 (n + 1) (f 20) (fd 20) P_must_in_time (SpF K (callF tab (n + 1)) 20) := by
  refine D.d20.ok sc_must_in_time (fun vs H Q E h => spf_len (c := ⟨K, w, SpF K (callF tab n)⟩) (r := ir_must_in_time) rfl h) (fun cdv A outer s H vs Q E hr h => ⟨_, PSs.nox (w_must_in_time (sp := SpF K (callF tab n)) hr (en_of D hr sc_must_in_time.nd) (fc_slack D O)), ?_⟩)
  exact spf_body (c := ⟨K, w, SpF K (callF tab n)⟩) (r := ir_must_in_time) rfl (fun _ => rfl) (N := N_must_in_time) rfl h
theorem ok_share_of_work (D : Fs K mg f fd) (O : Ok P w K mg base f fd n) : FnOk P w K mg base CX0 (n + 1) (f 21) (fd 21) P_share_of_work (SpF K (callF tab (n + 1)) 21) := by
  refine D.d21.ok sc_share_of_work (fun vs H Q E h => spf_len (c := ⟨K, w, SpF K (callF tab n)⟩) (r := ir_share_of_work) rfl h) (fun cdv A outer s H vs Q E hr h => ⟨_, PSs.nox (w_share_of_work (sp := SpF K (callF tab n)) hr (en_of D hr sc_share_of_work.nd) (fc_work D O) (fc_depth D O)), ?_⟩)
  exact spf_body (c := ⟨K, w, SpF K (callF tab n)⟩) (r := ir_share_of_work) rfl (fun _ => rfl) (N := N_share_of_work) rfl h
theorem ok_is_deep_paper (D : Fs K mg f fd) (O : Ok P w K mg base f fd n) : FnOk P w K mg base CX0 (n + 1) (f 22) (fd 22) P_is_deep_paper (SpF K (callF tab (n + 1)) 22) := by
  refine D.d22.ok sc_is_deep_paper (fun vs H Q E h => spf_len (c := ⟨K, w, SpF K (callF tab n)⟩) (r := ir_is_deep_paper) rfl h) (fun cdv A outer s H vs Q E hr h => ⟨_, PSs.nox (w_is_deep_paper (sp := SpF K (callF tab n)) hr (en_of D hr sc_is_deep_paper.nd) (fc_is_row D O) (fc_is_path D O) (fc_is_lots D O)), ?_⟩)
  exact spf_body (c := ⟨K, w, SpF K (callF tab n)⟩) (r := ir_is_deep_paper) rfl (fun _ => rfl) (N := N_is_deep_paper) rfl h
theorem ok_deep_paper (D : Fs K mg f fd) (O : Ok P w K mg base f fd n) : FnOk P w K mg base CX0 (n + 1) (f 23) (fd 23) P_deep_paper (SpF K (callF tab (n + 1)) 23) := by
  refine D.d23.ok sc_deep_paper (fun vs H Q E h => spf_len (c := ⟨K, w, SpF K (callF tab n)⟩) (r := ir_deep_paper) rfl h) (fun cdv A outer s H vs Q E hr h => ⟨_, PSs.nox (w_deep_paper (sp := SpF K (callF tab n)) hr (en_of D hr sc_deep_paper.nd) (fc_longest_path D O) (fc_lots D O)), ?_⟩)
  exact spf_body (c := ⟨K, w, SpF K (callF tab n)⟩) (r := ir_deep_paper) rfl (fun _ => rfl) (N := N_deep_paper) rfl h
theorem ok_reach (D : Fs K mg f fd) (O : Ok P w K mg base f fd n) : FnOk P w K mg base CX0 (n + 1) (f 24) (fd 24) P_reach (SpF K (callF tab (n + 1)) 24) := by
  refine D.d24.ok sc_reach (fun vs H Q E h => spf_len (c := ⟨K, w, SpF K (callF tab n)⟩) (r := ir_reach) rfl h) (fun cdv A outer s H vs Q E hr h => ⟨_, PSs.nox (w_reach (sp := SpF K (callF tab n)) hr (en_of D hr sc_reach.nd) (fc_all_above D O) (fc_all_below D O)), ?_⟩)
  exact spf_body (c := ⟨K, w, SpF K (callF tab n)⟩) (r := ir_reach) rfl (fun _ => rfl) (N := N_reach) rfl h
theorem ok__law_box (D : Fs K mg f fd) (O : Ok P w K mg base f fd n) : FnOk P w K mg base CX0 (n + 1) (f 25) (fd 25) P__law_box (SpF K (callF tab (n + 1)) 25) := by
  refine D.d25.ok sc__law_box (fun vs H Q E h => spf_len (c := ⟨K, w, SpF K (callF tab n)⟩) (r := ir__law_box) rfl h) (fun cdv A outer s H vs Q E hr h => ⟨_, PSs.nox (w__law_box (sp := SpF K (callF tab n)) hr (en_of D hr sc__law_box.nd) ), ?_⟩)
  exact spf_body (c := ⟨K, w, SpF K (callF tab n)⟩) (r := ir__law_box) rfl (fun _ => rfl) (N := N__law_box) rfl h
theorem ok__law_take (D : Fs K mg f fd) (O : Ok P w K mg base f fd n) : FnOk P w K mg base CX0 (n + 1) (f 26) (fd 26) P__law_take (SpF K (callF tab (n + 1)) 26) := by
  refine D.d26.ok sc__law_take (fun vs H Q E h => spf_len (c := ⟨K, w, SpF K (callF tab n)⟩) (r := ir__law_take) rfl h) (fun cdv A outer s H vs Q E hr h => ⟨_, PSs.nox (w__law_take (sp := SpF K (callF tab n)) hr (en_of D hr sc__law_take.nd) ), ?_⟩)
  exact spf_body (c := ⟨K, w, SpF K (callF tab n)⟩) (r := ir__law_take) rfl (fun _ => rfl) (N := N__law_take) rfl h
theorem ok__law_cells (D : Fs K mg f fd) (O : Ok P w K mg base f fd n) : FnOk P w K mg base CX0 (n + 1) (f 27) (fd 27) P__law_cells (SpF K (callF tab (n + 1)) 27) := by
  refine D.d27.ok sc__law_cells (fun vs H Q E h => spf_len (c := ⟨K, w, SpF K (callF tab n)⟩) (r := ir__law_cells) rfl h) (fun cdv A outer s H vs Q E hr h => ⟨_, PSs.nox (w__law_cells (sp := SpF K (callF tab n)) hr (en_of D hr sc__law_cells.nd) ), ?_⟩)
  exact spf_body (c := ⟨K, w, SpF K (callF tab n)⟩) (r := ir__law_cells) rfl (fun _ => rfl) (N := N__law_cells) rfl h
theorem ok__law_of (D : Fs K mg f fd) (O : Ok P w K mg base f fd n) : FnOk P w K mg base CX0 (n + 1) (f 28) (fd 28) P__law_of (SpF K (callF tab (n + 1)) 28) := by
  refine D.d28.ok sc__law_of (fun vs H Q E h => spf_len (c := ⟨K, w, SpF K (callF tab n)⟩) (r := ir__law_of) rfl h) (fun cdv A outer s H vs Q E hr h => ⟨_, PSs.nox (w__law_of (sp := SpF K (callF tab n)) hr (en_of D hr sc__law_of.nd) (fc__law_take D O)), ?_⟩)
  exact spf_body (c := ⟨K, w, SpF K (callF tab n)⟩) (r := ir__law_of) rfl (fun _ => rfl) (N := N__law_of) rfl h
theorem ok__law_same (D : Fs K mg f fd) (O : Ok P w K mg base f fd n) : FnOk P w K mg base CX0 (n + 1) (f 29) (fd 29) P__law_same (SpF K (callF tab (n + 1)) 29) := by
  refine D.d29.ok sc__law_same (fun vs H Q E h => spf_len (c := ⟨K, w, SpF K (callF tab n)⟩) (r := ir__law_same) rfl h) (fun cdv A outer s H vs Q E hr h => ⟨_, PSs.nox (w__law_same (sp := SpF K (callF tab n)) hr (en_of D hr sc__law_same.nd) (fc__law_same D O)), ?_⟩)
  exact spf_body (c := ⟨K, w, SpF K (callF tab n)⟩) (r := ir__law_same) rfl (fun _ => rfl) (N := N__law_same) rfl h
theorem ok__law_flat (D : Fs K mg f fd) (O : Ok P w K mg base f fd n) : FnOk P w K mg base CX0 (n + 1) (f 30) (fd 30) P__law_flat (SpF K (callF tab (n + 1)) 30) := by
  refine D.d30.ok sc__law_flat (fun vs H Q E h => spf_len (c := ⟨K, w, SpF K (callF tab n)⟩) (r := ir__law_flat) rfl h) (fun cdv A outer s H vs Q E hr h => ⟨_, PSs.nox (w__law_flat (sp := SpF K (callF tab n)) hr (en_of D hr sc__law_flat.nd) ), ?_⟩)
  exact spf_body (c := ⟨K, w, SpF K (callF tab n)⟩) (r := ir__law_flat) rfl (fun _ => rfl) (N := N__law_flat) rfl h
theorem ok__law_set (D : Fs K mg f fd) (O : Ok P w K mg base f fd n) : FnOk P w K mg base CX0 (n + 1) (f 31) (fd 31) P__law_set (SpF K (callF tab (n + 1)) 31) := by
  refine D.d31.ok sc__law_set (fun vs H Q E h => spf_len (c := ⟨K, w, SpF K (callF tab n)⟩) (r := ir__law_set) rfl h) (fun cdv A outer s H vs Q E hr h => ⟨_, PSs.nox (w__law_set (sp := SpF K (callF tab n)) hr (en_of D hr sc__law_set.nd) ), ?_⟩)
  exact spf_body (c := ⟨K, w, SpF K (callF tab n)⟩) (r := ir__law_set) rfl (fun _ => rfl) (N := N__law_set) rfl h
theorem ok__law_above (D : Fs K mg f fd) (O : Ok P w K mg base f fd n) : FnOk P w K mg base CX0 (n + 1) (f 32) (fd 32) P__law_above (SpF K (callF tab (n + 1)) 32) := by
  refine D.d32.ok sc__law_above (fun vs H Q E h => spf_len (c := ⟨K, w, SpF K (callF tab n)⟩) (r := ir__law_above) rfl h) (fun cdv A outer s H vs Q E hr h => ⟨_, PSs.nox (w__law_above (sp := SpF K (callF tab n)) hr (en_of D hr sc__law_above.nd) (fc__law_flat D O) (fc__law_set D O)), ?_⟩)
  exact spf_body (c := ⟨K, w, SpF K (callF tab n)⟩) (r := ir__law_above) rfl (fun _ => rfl) (N := N__law_above) rfl h
theorem ok__law_some (D : Fs K mg f fd) (O : Ok P w K mg base f fd n) : FnOk P w K mg base CX0 (n + 1) (f 33) (fd 33) P__law_some (SpF K (callF tab (n + 1)) 33) := by
  refine D.d33.ok sc__law_some (fun vs H Q E h => spf_len (c := ⟨K, w, SpF K (callF tab n)⟩) (r := ir__law_some) rfl h) (fun cdv A outer s H vs Q E hr h => ⟨_, PSs.nox (w__law_some (sp := SpF K (callF tab n)) hr (en_of D hr sc__law_some.nd) (fc__law_of D O)), ?_⟩)
  exact spf_body (c := ⟨K, w, SpF K (callF tab n)⟩) (r := ir__law_some) rfl (fun _ => rfl) (N := N__law_some) rfl h
theorem ok__law_mixed (D : Fs K mg f fd) (O : Ok P w K mg base f fd n) : FnOk P w K mg base CX0 (n + 1) (f 34) (fd 34) P__law_mixed (SpF K (callF tab (n + 1)) 34) := by
  refine D.d34.ok sc__law_mixed (fun vs H Q E h => spf_len (c := ⟨K, w, SpF K (callF tab n)⟩) (r := ir__law_mixed) rfl h) (fun cdv A outer s H vs Q E hr h => ⟨_, PSs.nox (w__law_mixed (sp := SpF K (callF tab n)) hr (en_of D hr sc__law_mixed.nd) (fc__law_take D O) (fc__law_mixed D O)), ?_⟩)
  exact spf_body (c := ⟨K, w, SpF K (callF tab n)⟩) (r := ir__law_mixed) rfl (fun _ => rfl) (N := N__law_mixed) rfl h
theorem ok__law_tall (D : Fs K mg f fd) (O : Ok P w K mg base f fd n) : FnOk P w K mg base CX0 (n + 1) (f 35) (fd 35) P__law_tall (SpF K (callF tab (n + 1)) 35) := by
  refine D.d35.ok sc__law_tall (fun vs H Q E h => spf_len (c := ⟨K, w, SpF K (callF tab n)⟩) (r := ir__law_tall) rfl h) (fun cdv A outer s H vs Q E hr h => ⟨_, PSs.nox (w__law_tall (sp := SpF K (callF tab n)) hr (en_of D hr sc__law_tall.nd) (fc__law_take D O) (fc__law_set D O)), ?_⟩)
  exact spf_body (c := ⟨K, w, SpF K (callF tab n)⟩) (r := ir__law_tall) rfl (fun _ => rfl) (N := N__law_tall) rfl h
theorem ok__law_best_path (D : Fs K mg f fd) (O : Ok P w K mg base f fd n) : FnOk P w K mg base CX0 (n + 1) (f 36) (fd 36) P__law_best_path (SpF K (callF tab (n + 1)) 36) := by
  refine D.d36.ok sc__law_best_path (fun vs H Q E h => spf_len (c := ⟨K, w, SpF K (callF tab n)⟩) (r := ir__law_best_path) rfl h) (fun cdv A outer s H vs Q E hr h => ⟨_, PSs.nox (w__law_best_path (sp := SpF K (callF tab n)) hr (en_of D hr sc__law_best_path.nd) ), ?_⟩)
  exact spf_body (c := ⟨K, w, SpF K (callF tab n)⟩) (r := ir__law_best_path) rfl (fun _ => rfl) (N := N__law_best_path) rfl h
theorem ok_law (D : Fs K mg f fd) (O : Ok P w K mg base f fd n) : FnOk P w K mg base CX0 (n + 1) (f 37) (fd 37) P_law (SpF K (callF tab (n + 1)) 37) := by
  refine D.d37.ok sc_law (fun vs H Q E h => spf_len (c := ⟨K, w, SpF K (callF tab n)⟩) (r := ir_law) rfl h) (fun cdv A outer s H vs Q E hr h => ⟨_, PSs.nox (w_law (sp := SpF K (callF tab n)) hr (en_of D hr sc_law.nd) (fc_work D O) (fc_levels D O) (fc_heights D O) (fc_depth D O) (fc_longest_path D O) (fc_is_path D O) (fc_lots D O) (fc_is_apart_set D O) (fc_is_lots D O) (fc_slack D O) (fc_must_in_time D O) (fc_share_of_work D O) (fc_is_deep_paper D O) (fc_deep_paper D O) (fc_reach D O) (fc__law_box D O) (fc__law_take D O) (fc__law_cells D O) (fc__law_of D O) (fc__law_same D O) (fc__law_set D O) (fc__law_above D O) (fc__law_some D O) (fc__law_mixed D O) (fc__law_tall D O) (fc__law_best_path D O)), ?_⟩)
  exact spf_body (c := ⟨K, w, SpF K (callF tab n)⟩) (r := ir_law) rfl (fun _ => rfl) (N := N_law) rfl h
theorem okS (D : Fs K mg f fd) (O : Ok P w K mg base f fd n) : Ok P w K mg base f fd (n + 1) := ⟨ok_is_number D O, ok_is_below D O, ok_is_row D O, ok_tuple_of D O, ok_set_of D O, ok_web_of D O, ok_pairs_of D O, ok_all_above D O, ok_all_below D O, ok_turned D O, ok_work D O, ok_levels D O, ok_heights D O, ok_depth D O, ok_longest_path D O, ok_is_path D O, ok_lots D O, ok_is_apart_set D O, ok_is_lots D O, ok_slack D O, ok_must_in_time D O, ok_share_of_work D O, ok_is_deep_paper D O, ok_deep_paper D O, ok_reach D O, ok__law_box D O, ok__law_take D O, ok__law_cells D O, ok__law_of D O, ok__law_same D O, ok__law_flat D O, ok__law_set D O, ok__law_above D O, ok__law_some D O, ok__law_mixed D O, ok__law_tall D O, ok__law_best_path D O, ok_law D O⟩
theorem okAll (D : Fs K mg f fd) : ∀ n, Ok P w K mg base f fd n
  | 0 => ok0
  | n + 1 => okS D (okAll D n)
end
end W02
end

section
set_option Elab.async false
set_option linter.all false
set_option maxRecDepth 100000
set_option maxHeartbeats 0
/-! W02: the head, the law. -/
namespace W02
open PySem PySem.Spec PyProof.Rows L2 PD
def dd0 : He.DefD := ⟨("is_number", none), "is_number", "is_number", defArgs st_is_number, defBody st_is_number, defScope st_is_number, [], []⟩
def dd1 : He.DefD := ⟨("is_below", none), "is_below", "is_below", defArgs st_is_below, defBody st_is_below, defScope st_is_below, [], []⟩
def dd2 : He.DefD := ⟨("is_row", none), "is_row", "is_row", defArgs st_is_row, defBody st_is_row, defScope st_is_row, [], []⟩
def dd3 : He.DefD := ⟨("tuple_of", none), "tuple_of", "tuple_of", defArgs st_tuple_of, defBody st_tuple_of, defScope st_tuple_of, [], []⟩
def dd4 : He.DefD := ⟨("set_of", none), "set_of", "set_of", defArgs st_set_of, defBody st_set_of, defScope st_set_of, [], []⟩
def dd5 : He.DefD := ⟨("web_of", none), "web_of", "web_of", defArgs st_web_of, defBody st_web_of, defScope st_web_of, [], []⟩
def dd6 : He.DefD := ⟨("pairs_of", none), "pairs_of", "pairs_of", defArgs st_pairs_of, defBody st_pairs_of, defScope st_pairs_of, [], []⟩
def dd7 : He.DefD := ⟨("all_above", none), "all_above", "all_above", defArgs st_all_above, defBody st_all_above, defScope st_all_above, [], []⟩
def dd8 : He.DefD := ⟨("all_below", none), "all_below", "all_below", defArgs st_all_below, defBody st_all_below, defScope st_all_below, [], []⟩
def dd9 : He.DefD := ⟨("turned", none), "turned", "turned", defArgs st_turned, defBody st_turned, defScope st_turned, [], []⟩
def dd10 : He.DefD := ⟨("work", none), "work", "work", defArgs st_work, defBody st_work, defScope st_work, [], []⟩
def dd11 : He.DefD := ⟨("levels", none), "levels", "levels", defArgs st_levels, defBody st_levels, defScope st_levels, [], []⟩
def dd12 : He.DefD := ⟨("heights", none), "heights", "heights", defArgs st_heights, defBody st_heights, defScope st_heights, [], []⟩
def dd13 : He.DefD := ⟨("depth", none), "depth", "depth", defArgs st_depth, defBody st_depth, defScope st_depth, [], []⟩
def dd14 : He.DefD := ⟨("longest_path", none), "longest_path", "longest_path", defArgs st_longest_path, defBody st_longest_path, defScope st_longest_path, [], []⟩
def dd15 : He.DefD := ⟨("is_path", none), "is_path", "is_path", defArgs st_is_path, defBody st_is_path, defScope st_is_path, [], []⟩
def dd16 : He.DefD := ⟨("lots", none), "lots", "lots", defArgs st_lots, defBody st_lots, defScope st_lots, [], []⟩
def dd17 : He.DefD := ⟨("is_apart_set", none), "is_apart_set", "is_apart_set", defArgs st_is_apart_set, defBody st_is_apart_set, defScope st_is_apart_set, [], []⟩
def dd18 : He.DefD := ⟨("is_lots", none), "is_lots", "is_lots", defArgs st_is_lots, defBody st_is_lots, defScope st_is_lots, [], []⟩
def dd19 : He.DefD := ⟨("slack", none), "slack", "slack", defArgs st_slack, defBody st_slack, defScope st_slack, [], []⟩
def dd20 : He.DefD := ⟨("must_in_time", none), "must_in_time", "must_in_time", defArgs st_must_in_time, defBody st_must_in_time, defScope st_must_in_time, [], []⟩
def dd21 : He.DefD := ⟨("share_of_work", none), "share_of_work", "share_of_work", defArgs st_share_of_work, defBody st_share_of_work, defScope st_share_of_work, [], []⟩
def dd22 : He.DefD := ⟨("is_deep_paper", none), "is_deep_paper", "is_deep_paper", defArgs st_is_deep_paper, defBody st_is_deep_paper, defScope st_is_deep_paper, [], []⟩
def dd23 : He.DefD := ⟨("deep_paper", none), "deep_paper", "deep_paper", defArgs st_deep_paper, defBody st_deep_paper, defScope st_deep_paper, [], []⟩
def dd24 : He.DefD := ⟨("reach", none), "reach", "reach", defArgs st_reach, defBody st_reach, defScope st_reach, [], []⟩
def dd25 : He.DefD := ⟨("_law_box", none), "_law_box", "_law_box", defArgs st__law_box, defBody st__law_box, defScope st__law_box, [], []⟩
def dd26 : He.DefD := ⟨("_law_take", none), "_law_take", "_law_take", defArgs st__law_take, defBody st__law_take, defScope st__law_take, [], []⟩
def dd27 : He.DefD := ⟨("_law_cells", none), "_law_cells", "_law_cells", defArgs st__law_cells, defBody st__law_cells, defScope st__law_cells, [], []⟩
def dd28 : He.DefD := ⟨("_law_of", none), "_law_of", "_law_of", defArgs st__law_of, defBody st__law_of, defScope st__law_of, [], []⟩
def dd29 : He.DefD := ⟨("_law_same", none), "_law_same", "_law_same", defArgs st__law_same, defBody st__law_same, defScope st__law_same, [], []⟩
def dd30 : He.DefD := ⟨("_law_flat", none), "_law_flat", "_law_flat", defArgs st__law_flat, defBody st__law_flat, defScope st__law_flat, [], []⟩
def dd31 : He.DefD := ⟨("_law_set", none), "_law_set", "_law_set", defArgs st__law_set, defBody st__law_set, defScope st__law_set, [], []⟩
def dd32 : He.DefD := ⟨("_law_above", none), "_law_above", "_law_above", defArgs st__law_above, defBody st__law_above, defScope st__law_above, [], []⟩
def dd33 : He.DefD := ⟨("_law_some", none), "_law_some", "_law_some", defArgs st__law_some, defBody st__law_some, defScope st__law_some, [], []⟩
def dd34 : He.DefD := ⟨("_law_mixed", none), "_law_mixed", "_law_mixed", defArgs st__law_mixed, defBody st__law_mixed, defScope st__law_mixed, [], []⟩
def dd35 : He.DefD := ⟨("_law_tall", none), "_law_tall", "_law_tall", defArgs st__law_tall, defBody st__law_tall, defScope st__law_tall, [], []⟩
def dd36 : He.DefD := ⟨("_law_best_path", none), "_law_best_path", "_law_best_path", defArgs st__law_best_path, defBody st__law_best_path, defScope st__law_best_path, [], []⟩
def dd37 : He.DefD := ⟨("law", none), "law", "law", defArgs st_law, defBody st_law, defScope st_law, [], []⟩
def fn : List He.DefD := [dd0, dd1, dd2, dd3, dd4, dd5, dd6, dd7, dd8, dd9, dd10, dd11, dd12, dd13, dd14, dd15, dd16, dd17, dd18, dd19, dd20, dd21, dd22, dd23, dd24, dd25, dd26, dd27, dd28, dd29, dd30, dd31, dd32, dd33, dd34, dd35, dd36, dd37]
def fa : List He.Fa := [.glo "is_number", .glo "is_below", .glo "is_row", .glo "tuple_of", .glo "set_of", .glo "web_of", .glo "pairs_of", .glo "all_above", .glo "all_below", .glo "turned", .glo "work", .glo "levels", .glo "heights", .glo "depth", .glo "longest_path", .glo "is_path", .glo "lots", .glo "is_apart_set", .glo "is_lots", .glo "slack", .glo "must_in_time", .glo "share_of_work", .glo "is_deep_paper", .glo "deep_paper", .glo "reach", .glo "_law_box", .glo "_law_take", .glo "_law_cells", .glo "_law_of", .glo "_law_same", .glo "_law_flat", .glo "_law_set", .glo "_law_above", .glo "_law_some", .glo "_law_mixed", .glo "_law_tall", .glo "_law_best_path", .glo "law"]
  ++ [.free "len", .free "abs", .free "int", .free "list", .free "tuple", .free "sorted", .free "set", .free "sum", .free "max", .free "min", .free "all", .free "any", .free "range", .free "enumerate", .free "zip", .free "isinstance", .free "bool", .free "str"]
def loose0 : List PySem.Str := ["is_number", "is_below", "is_row", "tuple_of", "set_of", "Unfit", "web_of", "pairs_of", "all_above", "all_below", "turned", "work", "levels", "heights", "depth", "longest_path", "is_path", "lots", "is_apart_set", "is_lots", "slack", "must_in_time", "share_of_work", "is_deep_paper", "deep_paper", "reach", "_law_box", "_law_take", "_law_cells", "_law_of"]
def loose1 : List PySem.Str := ["_law_same", "_law_flat", "_law_set", "_law_above", "_law_some", "_law_mixed", "_law_tall", "_law_best_path"]
def loose : List PySem.Str := loose0 ++ loose1
abbrev R : PySem.W.OpenRow := PySem.W.OpenLaw.row PySem.Challenge.rw_deedwebs_k02_levels_and_slack_of_sixty_d
abbrev hk : PySem.W.Hook := He.hookD 4 fa fn
def ob (s : PySem.W.SharedT) : He.AlD := He.obsDG 4 fa fn (HandSHeadRun.getT s)
theorem ob_eq (s : PySem.W.SharedT) : ob s = hk.obs s.abs := He.obsDG_eq (HandSHeadRun.getT_eq s)
theorem run (w : World) : HandSHeadRun.RunEq R (PySem.W.view R.prog [43]) hk ob 4000 loose w := by
  intro os
  kernel_rfl
theorem facts {K : PySem.W.Frag} {h : Heap} {mg : Str → Option Value} {fl : Addr} (X : K.In h) (G : h.Ns mainGlobals mg) (hfa : mg ("law" : Str) = some (.ref fl)) (c : He.SaysD fa fn K) :
    ∃ (f : Nat → Addr) (fd : Nat → FuncData), f 37 = fl ∧ Fs K mg f fd := by
  obtain ⟨fd0, F0⟩ := c.def_ 0 (d := dd0) rfl
  obtain ⟨fd1, F1⟩ := c.def_ 1 (d := dd1) rfl
  obtain ⟨fd2, F2⟩ := c.def_ 2 (d := dd2) rfl
  obtain ⟨fd3, F3⟩ := c.def_ 3 (d := dd3) rfl
  obtain ⟨fd4, F4⟩ := c.def_ 4 (d := dd4) rfl
  obtain ⟨fd5, F5⟩ := c.def_ 5 (d := dd5) rfl
  obtain ⟨fd6, F6⟩ := c.def_ 6 (d := dd6) rfl
  obtain ⟨fd7, F7⟩ := c.def_ 7 (d := dd7) rfl
  obtain ⟨fd8, F8⟩ := c.def_ 8 (d := dd8) rfl
  obtain ⟨fd9, F9⟩ := c.def_ 9 (d := dd9) rfl
  obtain ⟨fd10, F10⟩ := c.def_ 10 (d := dd10) rfl
  obtain ⟨fd11, F11⟩ := c.def_ 11 (d := dd11) rfl
  obtain ⟨fd12, F12⟩ := c.def_ 12 (d := dd12) rfl
  obtain ⟨fd13, F13⟩ := c.def_ 13 (d := dd13) rfl
  obtain ⟨fd14, F14⟩ := c.def_ 14 (d := dd14) rfl
  obtain ⟨fd15, F15⟩ := c.def_ 15 (d := dd15) rfl
  obtain ⟨fd16, F16⟩ := c.def_ 16 (d := dd16) rfl
  obtain ⟨fd17, F17⟩ := c.def_ 17 (d := dd17) rfl
  obtain ⟨fd18, F18⟩ := c.def_ 18 (d := dd18) rfl
  obtain ⟨fd19, F19⟩ := c.def_ 19 (d := dd19) rfl
  obtain ⟨fd20, F20⟩ := c.def_ 20 (d := dd20) rfl
  obtain ⟨fd21, F21⟩ := c.def_ 21 (d := dd21) rfl
  obtain ⟨fd22, F22⟩ := c.def_ 22 (d := dd22) rfl
  obtain ⟨fd23, F23⟩ := c.def_ 23 (d := dd23) rfl
  obtain ⟨fd24, F24⟩ := c.def_ 24 (d := dd24) rfl
  obtain ⟨fd25, F25⟩ := c.def_ 25 (d := dd25) rfl
  obtain ⟨fd26, F26⟩ := c.def_ 26 (d := dd26) rfl
  obtain ⟨fd27, F27⟩ := c.def_ 27 (d := dd27) rfl
  obtain ⟨fd28, F28⟩ := c.def_ 28 (d := dd28) rfl
  obtain ⟨fd29, F29⟩ := c.def_ 29 (d := dd29) rfl
  obtain ⟨fd30, F30⟩ := c.def_ 30 (d := dd30) rfl
  obtain ⟨fd31, F31⟩ := c.def_ 31 (d := dd31) rfl
  obtain ⟨fd32, F32⟩ := c.def_ 32 (d := dd32) rfl
  obtain ⟨fd33, F33⟩ := c.def_ 33 (d := dd33) rfl
  obtain ⟨fd34, F34⟩ := c.def_ 34 (d := dd34) rfl
  obtain ⟨fd35, F35⟩ := c.def_ 35 (d := dd35) rfl
  obtain ⟨fd36, F36⟩ := c.def_ 36 (d := dd36) rfl
  obtain ⟨fd37, F37⟩ := c.def_ 37 (d := dd37) rfl
  have e := hfa.symm.trans (He.glo_ok X G (c.fact 37 (f := .glo "law") rfl))
  cases e
  refine ⟨fun i => ([He.fAd K dd0.at_, He.fAd K dd1.at_, He.fAd K dd2.at_, He.fAd K dd3.at_, He.fAd K dd4.at_, He.fAd K dd5.at_, He.fAd K dd6.at_, He.fAd K dd7.at_, He.fAd K dd8.at_, He.fAd K dd9.at_, He.fAd K dd10.at_, He.fAd K dd11.at_, He.fAd K dd12.at_, He.fAd K dd13.at_, He.fAd K dd14.at_, He.fAd K dd15.at_, He.fAd K dd16.at_, He.fAd K dd17.at_, He.fAd K dd18.at_, He.fAd K dd19.at_, He.fAd K dd20.at_, He.fAd K dd21.at_, He.fAd K dd22.at_, He.fAd K dd23.at_, He.fAd K dd24.at_, He.fAd K dd25.at_, He.fAd K dd26.at_, He.fAd K dd27.at_, He.fAd K dd28.at_, He.fAd K dd29.at_, He.fAd K dd30.at_, He.fAd K dd31.at_, He.fAd K dd32.at_, He.fAd K dd33.at_, He.fAd K dd34.at_, He.fAd K dd35.at_, He.fAd K dd36.at_, He.fAd K dd37.at_] : List Addr).getD i 0, fun i => ([fd0, fd1, fd2, fd3, fd4, fd5, fd6, fd7, fd8, fd9, fd10, fd11, fd12, fd13, fd14, fd15, fd16, fd17, fd18, fd19, fd20, fd21, fd22, fd23, fd24, fd25, fd26, fd27, fd28, fd29, fd30, fd31, fd32, fd33, fd34, fd35, fd36, fd37] : List FuncData).getD i fd0, rfl, ⟨F0, He.glo_ok X G (c.fact 0 (f := .glo "is_number") rfl), F1, He.glo_ok X G (c.fact 1 (f := .glo "is_below") rfl), F2, He.glo_ok X G (c.fact 2 (f := .glo "is_row") rfl), F3, He.glo_ok X G (c.fact 3 (f := .glo "tuple_of") rfl), F4, He.glo_ok X G (c.fact 4 (f := .glo "set_of") rfl), F5, He.glo_ok X G (c.fact 5 (f := .glo "web_of") rfl), F6, He.glo_ok X G (c.fact 6 (f := .glo "pairs_of") rfl), F7, He.glo_ok X G (c.fact 7 (f := .glo "all_above") rfl), F8, He.glo_ok X G (c.fact 8 (f := .glo "all_below") rfl), F9, He.glo_ok X G (c.fact 9 (f := .glo "turned") rfl), F10, He.glo_ok X G (c.fact 10 (f := .glo "work") rfl), F11, He.glo_ok X G (c.fact 11 (f := .glo "levels") rfl), F12, He.glo_ok X G (c.fact 12 (f := .glo "heights") rfl), F13, He.glo_ok X G (c.fact 13 (f := .glo "depth") rfl), F14, He.glo_ok X G (c.fact 14 (f := .glo "longest_path") rfl), F15, He.glo_ok X G (c.fact 15 (f := .glo "is_path") rfl), F16, He.glo_ok X G (c.fact 16 (f := .glo "lots") rfl), F17, He.glo_ok X G (c.fact 17 (f := .glo "is_apart_set") rfl), F18, He.glo_ok X G (c.fact 18 (f := .glo "is_lots") rfl), F19, He.glo_ok X G (c.fact 19 (f := .glo "slack") rfl), F20, He.glo_ok X G (c.fact 20 (f := .glo "must_in_time") rfl), F21, He.glo_ok X G (c.fact 21 (f := .glo "share_of_work") rfl), F22, He.glo_ok X G (c.fact 22 (f := .glo "is_deep_paper") rfl), F23, He.glo_ok X G (c.fact 23 (f := .glo "deep_paper") rfl), F24, He.glo_ok X G (c.fact 24 (f := .glo "reach") rfl), F25, He.glo_ok X G (c.fact 25 (f := .glo "_law_box") rfl), F26, He.glo_ok X G (c.fact 26 (f := .glo "_law_take") rfl), F27, He.glo_ok X G (c.fact 27 (f := .glo "_law_cells") rfl), F28, He.glo_ok X G (c.fact 28 (f := .glo "_law_of") rfl), F29, He.glo_ok X G (c.fact 29 (f := .glo "_law_same") rfl), F30, He.glo_ok X G (c.fact 30 (f := .glo "_law_flat") rfl), F31, He.glo_ok X G (c.fact 31 (f := .glo "_law_set") rfl), F32, He.glo_ok X G (c.fact 32 (f := .glo "_law_above") rfl), F33, He.glo_ok X G (c.fact 33 (f := .glo "_law_some") rfl), F34, He.glo_ok X G (c.fact 34 (f := .glo "_law_mixed") rfl), F35, He.glo_ok X G (c.fact 35 (f := .glo "_law_tall") rfl), F36, He.glo_ok X G (c.fact 36 (f := .glo "_law_best_path") rfl), F37, He.glo_ok X G (c.fact 37 (f := .glo "law") rfl), He.free_ok X G (c.fact 38 (f := .free "len") rfl), He.free_ok X G (c.fact 39 (f := .free "abs") rfl), He.free_ok X G (c.fact 40 (f := .free "int") rfl), He.free_ok X G (c.fact 41 (f := .free "list") rfl), He.free_ok X G (c.fact 42 (f := .free "tuple") rfl), He.free_ok X G (c.fact 43 (f := .free "sorted") rfl), He.free_ok X G (c.fact 44 (f := .free "set") rfl), He.free_ok X G (c.fact 45 (f := .free "sum") rfl), He.free_ok X G (c.fact 46 (f := .free "max") rfl), He.free_ok X G (c.fact 47 (f := .free "min") rfl), He.free_ok X G (c.fact 48 (f := .free "all") rfl), He.free_ok X G (c.fact 49 (f := .free "any") rfl), He.free_ok X G (c.fact 50 (f := .free "range") rfl), He.free_ok X G (c.fact 51 (f := .free "enumerate") rfl), He.free_ok X G (c.fact 52 (f := .free "zip") rfl), He.free_ok X G (c.fact 53 (f := .free "isinstance") rfl), He.free_ok X G (c.fact 54 (f := .free "bool") rfl), He.free_ok X G (c.fact 55 (f := .free "str") rfl)⟩⟩
end W02
open PySem PySem.W PySem.Calls PyProof.Rows
theorem PySem.Challenge.cw_deedwebs_k02_levels_and_slack_of_sixty_d_holds : PySem.Challenge.rw_deedwebs_k02_levels_and_slack_of_sixty_d.Holds := by
  w_on; o_law
  refine HandSHeadRun.head_any (r := OpenLaw.row PySem.Challenge.rw_deedwebs_k02_levels_and_slack_of_sixty_d) (q := view (OpenLaw.row PySem.Challenge.rw_deedwebs_k02_levels_and_slack_of_sixty_d).prog [43]) (H := W02.hk) (ob := W02.ob) (M := 4000) (loose := W02.loose) (d := HandSHeadRun.topDef (OpenLaw.row PySem.Challenge.rw_deedwebs_k02_levels_and_slack_of_sixty_d).prog 43) (kwd := []) W02.ob_eq
    (by kernel_rfl) (fun s => by kernel_rfl) W02.run (by kernel_rfl) (by kernel_rfl) (by kernel_rfl) (by rfl) (by first | assumption | decide +kernel) (by decide +kernel) ⟨rfl, rfl, rfl, rfl, rfl, by decide +kernel⟩ ?hw ?hc
  case hw => w_witness2
  case hc =>
    refine L2.walk_ofE (l := PySem.Challenge.rw_deedwebs_k02_levels_and_slack_of_sixty_d) (n := 63) (k := 40) (x := "script") (CX := L2.CX0) rfl (by decide) (by kernel_rfl) ⟨rfl, by decide, by decide⟩ ?F (fun _ _ _ _ z => z)
    intro w mg fa h Y G hmg0
    obtain ⟨K, KX, c⟩ := Y
    have hmg : mg ("law" : PySem.Str) = some (.ref fa) := by
      have e : (HandSHeadRun.topDef (OpenLaw.row PySem.Challenge.rw_deedwebs_k02_levels_and_slack_of_sixty_d).prog 43).name = ("law" : PySem.Str) := by kernel_rfl
      rw [← e]
      exact hmg0
    obtain ⟨f, fd, rfl, D⟩ := W02.facts KX G hmg c
    exact ⟨K, fd 37, PD.SpF K (PD.callF W02.tab 40) 37, KX, fun s v => (D.d37.bindsA (ps := ["script"]) (fun _ _ _ _ _ _ us hl => match us, hl with | [_], _ => rfl) s [v] rfl), fun H a ns hl _ hS => PD.spf_law (W02.law_ok ns hl) hS, fun base _ _ => (W02.okAll D 40).o37⟩
end
