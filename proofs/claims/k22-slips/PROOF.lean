import PyProof.Rows.All
import HandS.ForMost
import HandS.StrMore
import HandS.Exc
import HandS.ExcOwn
import HandS.ExcInit
import HandS.ExcField
import HandS.TryMany
import HandS.CallSlots
import HandS.Flow
import HandS.IsInst
import HandS.FStr
import HandS.Deep
import HandS.SortRule
import HandS.RaiseMore
import HandS.RevRange
import HandS.Wide
import HandS.Conv
import HandS.SortKw
import HandS.SortInts
import HandS.Iter
import HandS.Comp
import HandS.HeadHook1
import HandS.HeadHook2
import HandS.EndBits
import HandS.Head0
import HandS.Head1
import HandS.Head2
import HandS.HeadEnd
import HandS.Words
import HandS.WordsExc
import HandS.More
import HandS.Ends
import KE.KStateDown
import PySem.Challenge.RW_dialhouse_k22_slips_of_one_meter
set_option linter.all false
set_option Elab.async false
set_option maxRecDepth 100000
set_option maxHeartbeats 0
set_option linter.all false
set_option Elab.async false
/-! The pure layer: data, the small language, what it computes. No machine in sight. -/
namespace PL
open PySem (Str)

inductive D where
  | non | bl (b : Bool) | int (i : Int) | str (x : Str) | tup (xs : List D) | lst (xs : List D) | ins (c : Nat) (fs : List D)

/-- an answer: a value; an error of class c with its fields; nothing known -/
inductive Res (α : Type) where
  | ok (a : α) | err (c : Nat) (fs : List D) | bad
def Res.bind {α β : Type} (r : Res α) (f : α → Res β) : Res β := match r with
  | .ok a => f a
  | .err c fs => .err c fs
  | .bad => .bad
@[simp] theorem Res.bind_ok {α β : Type} (a : α) (f : α → Res β) : (Res.ok a).bind f = f a := rfl
@[simp] theorem Res.bind_err {α β : Type} (c : Nat) (fs : List D) (f : α → Res β) : (Res.err c fs : Res α).bind f = .err c fs := rfl
@[simp] theorem Res.bind_bad {α β : Type} (f : α → Res β) : (Res.bad : Res α).bind f = .bad := rfl

/-- a value: data, or a list that nobody else holds -/
inductive Vl where
  | val (d : D) | own (ds : List D)
def Vl.d : Vl → D
  | .val d => d
  | .own ds => .lst ds
@[simp] theorem Vl.d_val (d : D) : (Vl.val d).d = d := rfl
@[simp] theorem Vl.d_own (ds : List D) : (Vl.own ds).d = .lst ds := rfl

/-- a slot -/
inductive Sl where
  | no | val (d : D) | own (ds : List D) | pk (ds : List D) | exc (c : Nat) (fs : List D) | obj (c : Nat) (ds : List D)
abbrev Env := List Sl
def Vl.sl : Vl → Sl
  | .val d => .val d
  | .own ds => .own ds
@[simp] theorem Vl.sl_val (d : D) : (Vl.val d).sl = .val d := rfl
@[simp] theorem Vl.sl_own (ds : List D) : (Vl.own ds).sl = .own ds := rfl

abbrev SL : Nat := 16777216

/-! ### operations on data -/
inductive O2 where
  | add | sub | mul | fdiv | mod | pow
inductive OC where
  | eq | ne | lt | le | gt | ge | isN | notN | isin | notin
inductive B1 where
  | len | abs | int | str | sum | lst | tup | sorted | max | min | sortr
inductive B2 where
  | max | min
inductive Ty where
  | int | bool | str | lst | tup
inductive M1 where
  | join | split | part | ends | rmpre | zfill | count
inductive M2 where
  | find | repl

def big : Int := 18446744073709551616
@[irreducible] def mulOk (a b : Int) : Bool := (decide (-big < a) && decide (a < big)) || ((decide (-big < b) && decide (b < big)) || decide (a.natAbs.log2 + b.natAbs.log2 < 134000000))
@[irreducible] def divOk (b : Int) : Bool := decide (b ≠ 0)
@[irreducible] def powOk (a b : Int) : Bool := decide (0 ≤ b) && (decide (b ≤ 1000000) && decide (a.natAbs < 18446744073709551616))

def ixNat (n : Nat) (i : Int) : Option Nat := if 0 ≤ i then (if i < n then some i.toNat else none) else if -(n : Int) ≤ i then some (i + n).toNat else none

def bin : O2 → D → D → Res Vl
  | .add, .int a, .int b => .ok (.val (.int (a + b)))
  | .add, .str a, .str b => if a.length + b.length ≤ SL then .ok (.val (.str (a ++ b))) else .bad
  | .add, .lst a, .lst b => if a.length + b.length ≤ SL then .ok (.own (a ++ b)) else .bad
  | .add, .tup a, .tup b => if a ≠ [] ∧ a.length + b.length ≤ SL then .ok (.val (.tup (a ++ b))) else .bad
  | .sub, .int a, .int b => .ok (.val (.int (a - b)))
  | .mul, .int a, .int b => if mulOk a b = true then .ok (.val (.int (a * b))) else .bad
  | .mul, .lst a, .int b => if -(2 ^ 63) ≤ b ∧ b < 2 ^ 63 ∧ a.length * b.toNat ≤ SL then .ok (.own (List.replicate b.toNat a).flatten) else .bad
  | .fdiv, .int a, .int b => if divOk b = true then .ok (.val (.int (a.fdiv b))) else .bad
  | .mod, .int a, .int b => if b = 0 then .bad else .ok (.val (.int (a.fmod b)))
  | .pow, .int a, .int b => if powOk a b = true then .ok (.val (.int (a ^ b.toNat))) else .bad
  | _, _, _ => .bad

/-! == of data -/
mutual
def eqD : D → D → Bool
  | .non, .non => true
  | .bl a, .bl b => a == b
  | .bl a, .int j => (if a then 1 else 0) == j
  | .int i, .bl b => i == (if b then 1 else 0)
  | .int i, .int j => i == j
  | .str x, .str y => x == y
  | .lst xs, .lst ys => eqDs xs ys
  | .tup xs, .tup ys => eqDs xs ys
  | _, _ => false
def eqDs : List D → List D → Bool
  | [], [] => true
  | x :: xs, y :: ys => eqD x y && eqDs xs ys
  | _, _ => false
end
/-! data that == may look at: no instances, texts of proper signs, not too deep -/
mutual
def eqOk : Nat → D → Bool
  | _, .non => true
  | _, .bl _ => true
  | _, .int _ => true
  | _, .str x => PySem.PyData.strOk x
  | 0, .tup _ => false
  | 0, .lst _ => false
  | n + 1, .tup xs => eqOks n xs
  | n + 1, .lst xs => eqOks n xs
  | _, .ins _ _ => false
def eqOks : Nat → List D → Bool
  | _, [] => true
  | n, x :: xs => eqOk n x && eqOks n xs
end
def flatD : D → Bool
  | .non => true
  | .bl _ => true
  | .int _ => true
  | .str _ => true
  | _ => false

def cmp : OC → D → D → Res Bool
  | .eq, a, b => if eqOk 60 a && eqOk 60 b then .ok (eqD a b) else .bad
  | .ne, a, b => if eqOk 60 a && eqOk 60 b then .ok (!eqD a b) else .bad
  | .lt, .int a, .int b => .ok (decide (a < b))
  | .le, .int a, .int b => .ok (decide (a ≤ b))
  | .gt, .int a, .int b => .ok (decide (b < a))
  | .ge, .int a, .int b => .ok (decide (b ≤ a))
  | .lt, .str a, .str b => .ok (decide (a.cps.toList < b.cps.toList))
  | .isN, .non, .non => .ok true
  | .isN, _, .non => .ok false
  | .isN, .bl a, .bl b => .ok (a == b)
  | .notN, .non, .non => .ok false
  | .notN, _, .non => .ok true
  | .notN, .bl a, .bl b => .ok (!(a == b))
  | .isin, .str a, .str b => (match a with
    | ⟨⟨[c]⟩⟩ => .ok (decide (c ∈ b.cps.toList))
    | _ => .bad)
  | .notin, .str a, .str b => (match a with
    | ⟨⟨[c]⟩⟩ => .ok (!decide (c ∈ b.cps.toList))
    | _ => .bad)
  | .isin, a, .lst ys => if eqOk 60 a && eqOk 60 (.lst ys) then .ok (ys.any fun y => eqD y a) else .bad
  | .notin, a, .lst ys => if eqOk 60 a && eqOk 60 (.lst ys) then .ok (!ys.any fun y => eqD y a) else .bad
  | .isin, a, .tup ys => if flatD a && ys.all flatD then .ok (ys.any fun y => eqD y a) else .bad
  | .notin, a, .tup ys => if flatD a && ys.all flatD then .ok (!ys.any fun y => eqD y a) else .bad
  | _, _, _ => .bad

def truth : D → Res Bool
  | .non => .ok false
  | .bl b => .ok b
  | .int i => .ok (i != 0)
  | .str x => if x.length ≤ SL then .ok ((x.length : Int) != 0) else .bad
  | .lst xs => .ok (!xs.isEmpty)
  | .tup xs => .ok (!xs.isEmpty)
  | _ => .bad

def neg : D → Res D
  | .int a => .ok (.int (-a))
  | _ => .bad

def index : D → D → Res D
  | .lst xs, .int i => (match (ixNat xs.length i).bind (xs[·]?) with
    | some d => .ok d
    | none => .bad)
  | .tup xs, .int i => (match (ixNat xs.length i).bind (xs[·]?) with
    | some d => .ok d
    | none => .bad)
  | .str x, .int i => if x.length ≤ SL then (match (ixNat x.cps.toList.length i).bind (x.cps.toList[·]?) with
    | some c => .ok (.str ⟨#[c]⟩)
    | none => .bad) else .bad
  | _, _ => .bad

/-- where a slice's end lies -/
def cutIx (n d : Nat) : Option Int → Nat
  | none => d
  | some v => if v < 0 then (v + (n : Int)).toNat else min v.toNat n
def cutL {α : Type} (xs : List α) (lo hi : Option Int) : List α := (xs.drop (cutIx xs.length 0 lo)).take (cutIx xs.length xs.length hi - cutIx xs.length 0 lo)
def slice : D → Option Int → Option Int → Res Vl
  | .lst xs, lo, hi => .ok (.own (cutL xs lo hi))
  | .tup xs, lo, hi => if cutIx xs.length 0 lo = 0 ∧ cutIx xs.length xs.length hi = xs.length then .bad else .ok (.val (.tup (cutL xs lo hi)))
  | .str x, lo, hi => if x.length ≤ SL then .ok (.val (.str ⟨(cutL x.cps.toList lo hi).toArray⟩)) else .bad
  | _, _, _ => .bad

def intsOf : List D → Option (List Int)
  | [] => some []
  | .int i :: r => (intsOf r).map (i :: ·)
  | _ :: _ => none
def strsOf : List D → Option (List Str)
  | [] => some []
  | .str i :: r => (strsOf r).map (i :: ·)
  | _ :: _ => none
def pairsOf : List D → Option (List (Int × Int))
  | [] => some []
  | .tup [.int a, .int b] :: r => (pairsOf r).map ((a, b) :: ·)
  | _ :: _ => none
def tripsOf : List D → Option (List (Int × Int × Int))
  | [] => some []
  | .tup [.int a, .int b, .int c] :: r => (tripsOf r).map ((a, b, c) :: ·)
  | _ :: _ => none
def leI (a b : Int) : Bool := decide (a ≤ b)
def geI (a b : Int) : Bool := decide (b ≤ a)
def leP (a b : Int × Int) : Bool := decide (a.1 < b.1) || (decide (a.1 = b.1) && decide (a.2 ≤ b.2))

def le3 (a b : Int × Int × Int) : Bool := decide (a.1 < b.1) || (decide (a.1 = b.1) && (decide (a.2.1 < b.2.1) || (decide (a.2.1 = b.2.1) && decide (a.2.2 ≤ b.2.2))))
def len : D → Res D
  | .lst xs => .ok (.int xs.length)
  | .tup xs => .ok (.int xs.length)
  | .str x => if x.length ≤ SL then .ok (.int x.length) else .bad
  | _ => .bad
def seqOf : D → Option (List D)
  | .lst xs => some xs
  | .tup xs => some xs
  | _ => none
/-- what a for walks -/
def walkOf : D → Option (List D)
  | .lst xs => some xs
  | .tup xs => some xs
  | .str x => some (x.cps.toList.map fun c => .str ⟨#[c]⟩)
  | _ => none
def listI (ns : List Int) : List D := ns.map .int
def sumI (ns : List Int) : Int := ns.sum
def sortD (xs : List D) : Res Vl := match intsOf xs with
  | some ns => .ok (.own (listI (ns.mergeSort leI)))
  | none => (match pairsOf xs with
    | some ps => .ok (.own ((ps.mergeSort leP).map fun p => .tup [.int p.1, .int p.2]))
    | none => (match tripsOf xs with
      | some ts => .ok (.own ((ts.mergeSort le3).map fun t => .tup [.int t.1, .int t.2.1, .int t.2.2]))
      | none => .bad))
def b1 : B1 → D → Res Vl
  | .len, d => (len d).bind fun z => .ok (.val z)
  | .abs, .int i => .ok (.val (.int (if i < 0 then -i else i)))
  | .int, .int i => .ok (.val (.int i))
  | .int, .bl b => .ok (.val (.int (if b then 1 else 0)))
  | .int, .str x => (match PySem.intText? x with
    | some n => if x.length ≤ 640 then .ok (.val (.int n)) else .bad
    | none => .bad)
  | .str, .int i => if i.natAbs.log2 < 1920 then .ok (.val (.str (toString i))) else .bad
  | .sum, .lst xs => (match intsOf xs with
    | some ns => .ok (.val (.int (sumI ns)))
    | none => .bad)
  | .lst, d => (match seqOf d with
    | some xs => .ok (.own xs)
    | none => .bad)
  | .tup, d => (match seqOf d with
    | some xs => .ok (.val (.tup xs))
    | none => .bad)
  | .sorted, .lst xs => sortD xs
  | .sortr, .lst xs => (match intsOf xs with
    | some ns => .ok (.own (listI (ns.mergeSort geI)))
    | none => .bad)
  | .max, .lst xs => (match intsOf xs with
    | some (n :: ns) => .ok (.val (.int (ns.foldl max n)))
    | _ => .bad)
  | .min, .lst xs => (match intsOf xs with
    | some (n :: ns) => .ok (.val (.int (ns.foldl min n)))
    | _ => .bad)
  | _, _ => .bad
def b2 : B2 → D → D → Res Vl
  | .max, .int i, .int j => .ok (.val (.int (if j > i then j else i)))
  | .min, .int i, .int j => .ok (.val (.int (if j < i then j else i)))
  | _, _, _ => .bad
def isTy : D → Ty → Res Bool
  | .non, _ => .ok false
  | .bl _, .bool => .ok true
  | .bl _, .int => .ok true
  | .bl _, _ => .ok false
  | .int _, .int => .ok true
  | .int _, _ => .ok false
  | .str _, .str => .ok true
  | .str _, _ => .ok false
  | .lst _, .lst => .ok true
  | .lst _, _ => .ok false
  | .tup _, .tup => .ok true
  | .tup _, _ => .ok false
  | .ins _ _, _ => .bad
def m1 : M1 → Str → D → Res Vl
  | .join, x, .lst ys => (match strsOf ys with
    | some zs => if (zs.map (·.length)).sum + zs.length * x.length ≤ SL then .ok (.val (.str (PySem.Txt.join x zs))) else .bad
    | none => .bad)
  | .split, x, .str y => if (y.length == 0) = false ∧ x.length + 2 ≤ SL then .ok (.own ((PySem.Txt.split x y).map .str)) else .bad
  | .part, x, .str y => if (y.length == 0) = false ∧ x.length ≤ SL then .ok (.val (.tup [.str (PySem.Txt.partition x y).1, .str (PySem.Txt.partition x y).2.1, .str (PySem.Txt.partition x y).2.2])) else .bad
  | .rmpre, x, .str y => if x.length ≤ SL then .ok (.val (.str (PySem.Txt.removeprefix x y))) else .bad
  | .zfill, x, .int i => if PySem.PadOk i = true then .ok (.val (.str (PySem.Txt.zfill x i))) else .bad
  | .ends, x, .str y => .ok (.val (.bl (PySem.Txt.endswith x y)))
  | .count, x, .str y => .ok (.val (.int (PySem.Txt.count x y)))
  | _, _, _ => .bad

/-! ### the language -/
/-- a target: a name, a tuple of names -/
inductive Tg where
  | n (i : Nat) | t (is : List Nat)
mutual
inductive E where
  | non | bl (b : Bool) | int (i : Int) | str (x : Str)
  | v (i : Nat)
  | g (j : Nat) (d : D)
  | neg (a : E) | not (a : E) | and (a b : E) | or (a b : E)
  | bin (o : O2) (a b : O)
  | cmp (c : OC) (a b : O)
  | ch2 (c d : OC) (x y z : O)
  | ch3 (c d e : OC) (x y z w : O)
  | tup (es : List E) | lst (es : List E)
  | ix (a i : O)
  | sl (a : O) (lo hi : Option E)
  | call (f : Nat) (es : List A)
  | mth (c f : Nat) (o : E) (es : List A)
  | mk (c : Nat) (es : List A)
  | fld (o : E) (c j : Nat)
  | xf (i c j : Nat) | sf (i c j : Nat) | isx (i : Nat)
  | b1 (b : B1) (a : O) | b2 (b : B2) (x y : O) | isi (a : O) (t : Ty)
  | m1 (m : M1) (o : E) (a : O)
  | comp (tg : Tg) (it : It) (cs : List T) (el : E) (own : List Nat)
  | fmt (a : E) | js (es : List E) | lrg (a : E)
/-- an operand: a slot that is looked at, or a value -/
inductive O where
  | s (i : Nat) | e (e : E)
inductive A where
  | p (o : O) | e (e : E)
/-- a test -/
inductive T where
  | v (o : O)
  | not (a : T) | and (a b : T) | or (a b : T)
  | cmp (c : OC) (a b : O)
  | ch2 (c d : OC) (x y z : O)
  | ch3 (c d e : OC) (x y z w : O)
inductive It where
  | r1 (a : E) | r2 (a b : E) | sq (o : O) | rev (o : O) | revr (a b : E) | r3 (a b k : E)
end
inductive S where
  | asg (fr : List Nat) (i : Nat) (e : E)
  | asgt (fr : List Nat) (is : List Nat) (e : E)
  | aug (i : Nat) (o : O2) (e : E)
  | app (fr : List Nat) (i : Nat) (e : E)
  | seti (fr : List Nat) (i : Nat) (k e : E)
  | augi (i : Nat) (k : E) (o : O2) (e : E)
  | setf (fr : List Nat) (c j : Nat) (e : E)
  | ite (fr : List Nat) (c : T) (a b : List S)
  | whl (fr : List Nat) (c : T) (b : List S)
  | forl (fr : List Nat) (tg : Tg) (it : It) (b : List S)
  | ret (fr : List Nat) (e : E) | retn | reto (i : Nat)
  | ex (fr : List Nat) (e : E) | pass | cont
  | rais (c : Nat) (es : List E)
  | try (b : List S) (hs : List (Nat × Option Nat × List S))

/-! ### what it computes -/
structure Ctx where
  call : Nat → List D → Res Vl
  fuel : Nat
def peek (env : Env) (i : Nat) : Res D := match env[i]? with
  | some (.val d) => .ok d
  | some (.own ds) => .ok (.lst ds)
  | some (.pk ds) => .ok (.lst ds)
  | _ => .bad
def peekT (env : Env) (i : Nat) : Res D := match env[i]? with
  | some (.val d) => .ok d
  | some (.own ds) => .ok (.lst ds)
  | _ => .bad
def getv (env : Env) (i : Nat) : Res Vl := match env[i]? with
  | some (.val d) => .ok (.val d)
  | _ => .bad
def ofB (r : Res Bool) : Res Vl := r.bind fun b => .ok (.val (.bl b))
def setT : Tg → D → Env → Option Env
  | .n i, d, env => some (env.set i (.val d))
  | .t is, .tup ds, env => if ds.length = is.length then some ((is.zip ds).foldl (fun e p => e.set p.1 (.val p.2)) env) else none
  | _, _, _ => none
def wipeE (env : Env) : List Nat → Env
  | [] => env
  | i :: is => (wipeE env is).set i .no
def inR (i : Int) : Bool := decide (-(2 ^ 62) ≤ i) && decide (i < 2 ^ 62)
def rangeD (a b : Int) : List D := (List.range (b - a).toNat).map fun (k : Nat) => D.int (a + (k : Int))
/-- range with a step above 0 -/
def rangeN (a b k : Int) : Nat := if a < b then ((b - a - 1) / k + 1).toNat else 0
def rangeC (a b k : Int) : List D := (List.range (rangeN a b k)).map fun (j : Nat) => D.int (a + (j : Int) * k)
def asBool (r : Vl) : Res Bool := match r with
  | .val (.bl b) => .ok b
  | _ => .bad
def truthV (r : Vl) : Res Bool := match r with
  | .val d => truth d
  | _ => .bad
def asInt (r : Vl) : Res Int := match r with
  | .val (.int i) => .ok i
  | _ => .bad
/-- {x} in an f-string -/
def fmtV : Vl → Res Vl
  | .val (.str y) => if y.length ≤ SL then .ok (.val (.str y)) else .bad
  | .val (.int i) => if i.natAbs.log2 < 1920 then .ok (.val (.str (toString i))) else .bad
  | _ => .bad
def jsStep (acc : Str) (x : Vl) (k : Str → Res Vl) : Res Vl := match x with
  | .val (.str y) => if (acc ++ y).length ≤ SL then k (acc ++ y) else .bad
  | _ => .bad
def compLoop (turn : D → Res (Option D)) : List D → List D → Res Vl
  | [], acc => .ok (.own acc)
  | d :: ds, acc => match turn d with
    | .ok none => compLoop turn ds acc
    | .ok (some x) => if acc.length < SL then compLoop turn ds (acc ++ [x]) else .bad
    | _ => .bad

mutual
def ev (c : Ctx) : E → Env → Res Vl
  | .non, _ => .ok (.val .non)
  | .bl b, _ => .ok (.val (.bl b))
  | .int i, _ => .ok (.val (.int i))
  | .str x, _ => .ok (.val (.str x))
  | .v i, env => getv env i
  | .g _ d, _ => .ok (.val d)
  | .neg a, env => (ev c a env).bind fun x => (neg x.d).bind fun d => .ok (.val d)
  | .not a, env => (ev c a env).bind fun x => (truthV x).bind fun b => .ok (.val (.bl (!b)))
  | .and a b, env => (ev c a env).bind fun x => (asBool x).bind fun k => if k = true then ev c b env else .ok (.val (.bl false))
  | .or a b, env => (ev c a env).bind fun x => (asBool x).bind fun k => if k = true then .ok (.val (.bl true)) else ev c b env
  | .bin o a b, env => (pt c a env).bind fun x => (pt c b env).bind fun y => bin o x y
  | .cmp o a b, env => (po c a env).bind fun x => (po c b env).bind fun y => ofB (cmp o x y)
  | .ch2 o p a b d, env => (po c a env).bind fun x => (po c b env).bind fun y => (cmp o x y).bind fun k => if k = true then (po c d env).bind fun z => ofB (cmp p y z) else .ok (.val (.bl false))
  | .ch3 o p q a b d e, env => (po c a env).bind fun x => (po c b env).bind fun y => (cmp o x y).bind fun k => if k = true then (po c d env).bind fun z => (cmp p y z).bind fun l =>
      if l = true then (po c e env).bind fun w => ofB (cmp q z w) else .ok (.val (.bl false)) else .ok (.val (.bl false))
  | .tup es, env => (evs c es env).bind fun ds => if ds.length ≤ SL then .ok (.val (.tup ds)) else .bad
  | .lst es, env => (evs c es env).bind fun ds => if ds.length ≤ SL then .ok (.own ds) else .bad
  | .ix a i, env => (po c a env).bind fun x => (po c i env).bind fun y => (index x y).bind fun d => .ok (.val d)
  | .sl a lo hi, env => (po c a env).bind fun x => (part c lo env).bind fun l => (part c hi env).bind fun h => slice x l h
  | .call f es, env => (args c es env).bind fun ds => c.call f ds
  | .mth k f o es, env => (ev c o env).bind fun x => (match x.d with
    | .ins k' fs => if k' = k then (args c es env).bind fun ds => c.call f (.ins k fs :: ds) else .bad
    | _ => .bad)
  | .mk k es, env => (args c es env).bind fun ds => c.call k ds
  | .fld o k j, env => (ev c o env).bind fun x => (match x.d with
    | .ins k' fs => if k' = k then (match fs[j]? with
      | some d => .ok (.val d)
      | none => .bad) else .bad
    | _ => .bad)
  | .xf i k j, env => (match env[i]? with
    | some (.exc k' fs) => if k' = k then (match fs[j]? with
      | some d => .ok (.val d)
      | none => .bad) else .bad
    | _ => .bad)
  | .sf i k j, env => (match env[i]? with
    | some (.obj k' fs) => if k' = k then (match fs[j]? with
      | some d => .ok (.val d)
      | none => .bad) else .bad
    | _ => .bad)
  | .isx i, env => (match env[i]? with
    | some (.exc _ _) => .ok (.val (.bl true))
    | _ => .bad)
  | .b1 b a, env => (po c a env).bind fun x => b1 b x
  | .b2 b a d, env => (po c a env).bind fun x => (po c d env).bind fun y => b2 b x y
  | .isi a t, env => (po c a env).bind fun x => ofB (isTy x t)
  | .m1 m o a, env => (ev c o env).bind fun x => (match x.d with
    | .str z => (po c a env).bind fun y => m1 m z y
    | _ => .bad)
  | .comp tg it cs el own, env => (its c it env).bind fun ds => compLoop (fun d => match setT tg d (wipeE env own) with
    | none => .bad
    | some e1 => (tvs c cs e1).bind fun k => if k = true then (ev c el e1).bind fun x => .ok (some x.d) else .ok none) ds []
  | .fmt a, env => (ev c a env).bind fmtV
  | .js es, env => js c es PySem.Str.empty env
  | .lrg a, env => (ev c a env).bind fun x => (asInt x).bind fun i => if inR i && decide (i ≤ SL) then .ok (.own (rangeD 0 i)) else .bad
/-- an f-string's parts, one behind the other -/
def js (c : Ctx) : List E → Str → Env → Res Vl
  | [], acc, _ => .ok (.val (.str acc))
  | e :: es, acc, env => (ev c e env).bind fun x => jsStep acc x fun y => js c es y env
def po (c : Ctx) : O → Env → Res D
  | .s i, env => peek env i
  | .e e, env => (ev c e env).bind fun x => .ok x.d
def pt (c : Ctx) : O → Env → Res D
  | .s i, env => peekT env i
  | .e e, env => (ev c e env).bind fun x => .ok x.d
def evs (c : Ctx) : List E → Env → Res (List D)
  | [], _ => .ok []
  | e :: es, env => (ev c e env).bind fun x => (evs c es env).bind fun ds => .ok (x.d :: ds)
def arg (c : Ctx) : A → Env → Res D
  | .p o, env => po c o env
  | .e e, env => (ev c e env).bind fun x => .ok x.d
def args (c : Ctx) : List A → Env → Res (List D)
  | [], _ => .ok []
  | e :: es, env => (arg c e env).bind fun x => (args c es env).bind fun ds => .ok (x :: ds)
def part (c : Ctx) : Option E → Env → Res (Option Int)
  | none, _ => .ok none
  | some e, env => (ev c e env).bind fun x => (asInt x).bind fun i => .ok (some i)
def tv (c : Ctx) : T → Env → Res Bool
  | .v o, env => (po c o env).bind truth
  | .not a, env => (tv c a env).bind fun k => .ok (!k)
  | .and a b, env => (tv c a env).bind fun k => if k = true then tv c b env else .ok false
  | .or a b, env => (tv c a env).bind fun k => if k = true then .ok true else tv c b env
  | .cmp o a b, env => (po c a env).bind fun x => (po c b env).bind fun y => cmp o x y
  | .ch2 o p a b d, env => (po c a env).bind fun x => (po c b env).bind fun y => (cmp o x y).bind fun k => if k = true then (po c d env).bind fun z => cmp p y z else .ok false
  | .ch3 o p q a b d e, env => (po c a env).bind fun x => (po c b env).bind fun y => (cmp o x y).bind fun k => if k = true then (po c d env).bind fun z => (cmp p y z).bind fun l =>
      if l = true then (po c e env).bind fun w => cmp q z w else .ok false else .ok false
def tvs (c : Ctx) : List T → Env → Res Bool
  | [], _ => .ok true
  | [t], env => tv c t env
  | _, _ => .bad
def its (c : Ctx) : It → Env → Res (List D)
  | .r1 a, env => (ev c a env).bind fun x => (asInt x).bind fun i => if inR i = true then .ok (rangeD 0 i) else .bad
  | .r2 a b, env => (ev c a env).bind fun x => (asInt x).bind fun i => (ev c b env).bind fun y => (asInt y).bind fun j => if inR i && inR j then .ok (rangeD i j) else .bad
  | .sq o, env => (po c o env).bind fun x => (match walkOf x with
    | some ds => .ok ds
    | none => .bad)
  | .rev o, env => (po c o env).bind fun x => (match x with
    | .lst ds => .ok ds.reverse
    | _ => .bad)
  | .r3 a b k, env => (ev c a env).bind fun x => (asInt x).bind fun i => (ev c b env).bind fun y => (asInt y).bind fun j => (ev c k env).bind fun z => (asInt z).bind fun m => if inR i && (inR j && decide (0 < m ∧ m < 1073741824)) then .ok (rangeC i j m) else .bad
  | .revr a b, env => (ev c a env).bind fun x => (asInt x).bind fun i => (ev c b env).bind fun y => (asInt y).bind fun j => if inR i && inR j then .ok (rangeD i j).reverse else .bad
end

/-- what a for walks: a list of one's own is let stand still first -/
def itsF (c : Ctx) (it : It) (env : Env) : Res (List D) := match it with
  | .sq (.s i) => (match env[i]? with
    | some (.val d) => (match walkOf d with
      | some ds => .ok ds
      | none => .bad)
    | some (.pk ds) => .ok ds
    | _ => .bad)
  | .rev (.s i) => (match env[i]? with
    | some (.val (.lst ds)) => .ok ds.reverse
    | some (.pk ds) => .ok ds.reverse
    | _ => .bad)
  | it => its c it env
inductive Out where
  | nx (e : Env) | ret (r : Vl) | ct (e : Env) | err (c : Nat) (fs : List D) (e : Env) | bad
def frz1 (env : Env) (i : Nat) : Env := match env[i]? with
  | some (.own ds) => env.set i (.val (.lst ds))
  | _ => env
def frz (fr : List Nat) (env : Env) : Env := fr.foldl frz1 env
/-- go on with a value -/
def Res.to {α : Type} (r : Res α) (env : Env) (f : α → Out) : Out := match r with
  | .ok a => f a
  | .err c fs => .err c fs env
  | .bad => .bad
@[simp] theorem Res.to_ok {α : Type} (a : α) (env : Env) (f : α → Out) : (Res.ok a).to env f = f a := rfl
@[simp] theorem Res.to_err {α : Type} (c : Nat) (fs : List D) (env : Env) (f : α → Out) : (Res.err c fs : Res α).to env f = .err c fs env := rfl
@[simp] theorem Res.to_bad {α : Type} (env : Env) (f : α → Out) : (Res.bad : Res α).to env f = .bad := rfl
def Out.seq (o : Out) (f : Env → Out) : Out := match o with
  | .nx e => f e
  | o => o
@[simp] theorem Out.seq_nx (e : Env) (f : Env → Out) : (Out.nx e).seq f = f e := rfl
@[simp] theorem Out.seq_ret (r : Vl) (f : Env → Out) : (Out.ret r).seq f = .ret r := rfl
@[simp] theorem Out.seq_ct (e : Env) (f : Env → Out) : (Out.ct e).seq f = .ct e := rfl
@[simp] theorem Out.seq_err (c : Nat) (fs : List D) (e : Env) (f : Env → Out) : (Out.err c fs e).seq f = .err c fs e := rfl
@[simp] theorem Out.seq_bad (f : Env → Out) : Out.bad.seq f = .bad := rfl
def forLoop (tg : Tg) (body : Env → Out) : List D → Env → Out
  | [], env => .nx env
  | d :: ds, env => match setT tg d env with
    | none => .bad
    | some e1 => match body e1 with
      | .nx e2 => forLoop tg body ds e2
      | .ct e2 => forLoop tg body ds e2
      | o => o
def whlLoop (test : Env → Res Bool) (body : Env → Out) (fr : List Nat) : Nat → Env → Out
  | 0, _ => .bad
  | n + 1, env => (test (frz fr env)).to (frz fr env) fun k => if k = true then (match body (frz fr env) with
    | .nx e2 => whlLoop test body fr n e2
    | .ct e2 => whlLoop test body fr n e2
    | o => o) else .nx (frz fr env)
/-- an exception's name comes and goes -/
def clr1 : Sl → Sl
  | .exc _ _ => .no
  | s => s
def clr (env : Env) : Env := env.map clr1
def bindX (n : Option Nat) (k : Nat) (fs : List D) (env : Env) : Env := match n with
  | none => env
  | some i => env.set i (.exc k fs)
def dropX (n : Option Nat) (env : Env) : Env := match n with
  | none => clr env
  | some i => clr (env.set i .no)
/-- the class of an error is that of a clause, or the clause names the base -/
def exm (c h : Nat) : Bool := h == c || h == 0
mutual
def exs (c : Ctx) : S → Env → Out
  | .asg fr i e, env => (ev c e (frz fr env)).to (frz fr env) fun x => .nx ((frz fr env).set i x.sl)
  | .asgt fr is e, env => (ev c e (frz fr env)).to (frz fr env) fun x => (match setT (.t is) x.d (frz fr env) with
    | some e1 => .nx e1
    | none => .bad)
  | .aug i o e, env => (match env[i]? with
    | some (.val x) => (ev c e env).to env fun y => (match x, y with
      | .int a, .val (.int b) => (match o with
        | .add => .nx (env.set i (.val (.int (a + b))))
        | .sub => .nx (env.set i (.val (.int (a - b))))
        | _ => .bad)
      | _, _ => .bad)
    | _ => .bad)
  | .app fr i e, env => (match (frz fr env)[i]? with
    | some (.own ds) => (ev c e (frz fr env)).to (frz fr env) fun x => if ds.length < SL then .nx ((frz fr env).set i (.own (ds ++ [x.d]))) else .bad
    | _ => .bad)
  | .seti fr i k e, env => (match (frz fr env)[i]? with
    | some (.own ds) => (ev c e (frz fr env)).to (frz fr env) fun x => (ev c k (frz fr env)).to (frz fr env) fun y => (match y with
      | .val (.int z) => (match ixNat ds.length z with
        | some j => .nx ((frz fr env).set i (.own (ds.set j x.d)))
        | none => .bad)
      | _ => .bad)
    | _ => .bad)
  | .augi i k o e, env => (match env[i]? with
    | some (.own ds) => (ev c k env).to env fun y => (match y with
      | .val (.int z) => (match ixNat ds.length z with
        | some j => (match ds[j]? with
          | some (.int a) => (ev c e env).to env fun x => (match x with
            | .val (.int b) => (match o with
              | .add => .nx (env.set i (.own (ds.set j (.int (a + b)))))
              | .sub => .nx (env.set i (.own (ds.set j (.int (a - b)))))
              | _ => .bad)
            | _ => .bad)
          | _ => .bad)
        | none => .bad)
      | _ => .bad)
    | _ => .bad)
  | .setf fr k j e, env => (ev c e (frz fr env)).to (frz fr env) fun x => (match (frz fr env).head? with
    | some (.obj k' ds) => if k' = k ∧ j = ds.length ∧ j < 100 then .nx ((frz fr env).set 0 (.obj k (ds ++ [x.d]))) else .bad
    | _ => .bad)
  | .ite fr t a b, env => (tv c t (frz fr env)).to (frz fr env) fun k => if k = true then exss c a (frz fr env) else exss c b (frz fr env)
  | .whl fr t b, env => whlLoop (tv c t) (exss c b) fr c.fuel env
  | .forl fr tg it b, env => (itsF c it (frz fr env)).to (frz fr env) fun ds => forLoop tg (exss c b) ds (frz fr env)
  | .ret fr e, env => (ev c e (frz fr env)).to (frz fr env) fun x => .ret x
  | .retn, _ => .ret (.val .non)
  | .reto i, env => (match env[i]? with
    | some (.own ds) => .ret (.own ds)
    | some (.val d) => .ret (.val d)
    | _ => .bad)
  | .ex fr e, env => (ev c e (frz fr env)).to (frz fr env) fun _ => .nx (frz fr env)
  | .pass, env => .nx env
  | .cont, env => .ct env
  | .rais k es, env => (evs c es env).to env fun ds => .err k ds env
  | .try b hs, env => (match exss c b env with
    | .err k fs e1 => hds c hs k fs e1
    | o => o)
def exss (c : Ctx) : List S → Env → Out
  | [], env => .nx env
  | s :: r, env => (exs c s env).seq (exss c r)
def hds (c : Ctx) : List (Nat × Option Nat × List S) → Nat → List D → Env → Out
  | [], k, fs, env => .err k fs env
  | (h, n, b) :: r, k, fs, env => if exm k h = true then (match exss c b (bindX n k fs env) with
      | .nx e1 => .nx (dropX n e1)
      | .ct e1 => .ct (dropX n e1)
      | .ret x => .ret x
      | _ => .bad)
    else hds c r k fs env
end

/-- a def: how many parameters, which of them are only looked at, how many slots, the body; of an __init__ the class -/
structure Fn where
  pm : List Bool
  ns : Nat
  ini : Option Nat
  body : List S
def startE : List Bool → List D → List Sl
  | b :: bs, d :: ds => (match b, d with
    | true, .lst xs => Sl.pk xs
    | _, _ => Sl.val d) :: startE bs ds
  | _, _ => []
def runFn (f : Fn) (c : Ctx) (ds : List D) : Res Vl :=
  if ds.length = f.pm.length then
    (match f.ini with
    | none => (match exss c f.body (startE f.pm ds ++ List.replicate (f.ns - f.pm.length) .no) with
      | .nx _ => .ok (.val .non)
      | .ret r => .ok r
      | .err k fs _ => .err k fs
      | _ => .bad)
    | some k => (match exss c f.body (.obj k [] :: startE f.pm ds ++ List.replicate (f.ns - f.pm.length - 1) .no) with
      | .nx e => (match e.head? with
        | some (.obj _ xs) => .ok (.val (.ins k xs))
        | _ => .bad)
      | .err k fs _ => .err k fs
      | _ => .bad))
  else .bad
/-- the defs by number, to a depth of calls -/
def sem (tbl : List Fn) (F : Nat) : Nat → Nat → List D → Res Vl
  | 0, _, _ => .bad
  | k + 1, f, ds => match tbl[f]? with
    | none => .bad
    | some fd => runFn fd ⟨sem tbl F k, F⟩ ds
end PL

set_option linter.all false
set_option Elab.async false
set_option maxRecDepth 100000
set_option maxHeartbeats 2000000
/-! Soundness of the pure layer over HandS, part 1: how data lie in the heap; readings; expressions. -/
namespace PL
open PySem PySem.Spec PyProof.Rows L2
abbrev St := L2.St

/-- where a def stands: a global; a class's method; a class's __init__ -/
inductive At where
  | glo | meth (c : Nat) | ini (c : Nat)
  deriving DecidableEq
structure FnI where
  name : Str
  at_ : At
  ps : List Str
  N : List Str
  fn : Fn
structure ClI where
  name : Str
  fields : List Str
  ini : Nat
structure ExI where
  name : Str
  fields : List Str
  ini : Nat
structure Tab where
  fns : List FnI
  cls : List ClI
  exs : List ExI
  glb : List (Str × Sum Int Str)
structure Par where
  K : PySem.W.Frag
  T : Tab
  ca : Nat → Addr
  xa : Nat → Addr

/-- how an instance's attributes lie: by the class's fields in their order, so far -/
structure InsOk (fields : List Str) (fs : List (Str × V)) (vs : List V) : Prop where
  at_ : ∀ (j : Nat) n v, fields[j]? = some n → vs[j]? = some v → fs.lookup n = some v
  no : ∀ m, m ∉ fields → fs.lookup m = none
  len : fs.length ≤ vs.length

mutual
inductive Rep (P : Par) (G : Hp) : V → D → Prop
  | non : Rep P G .non .non
  | bl (b : Bool) : Rep P G (.bl b) (.bl b)
  | int (i : Int) : Rep P G (.int i) (.int i)
  | str (x : Str) : Rep P G (.str x) (.str x)
  | tup {a : Addr} {vs : List V} {ds : List D} (h : G a = some (.tup vs)) (r : Reps P G vs ds) : Rep P G (.ref a) (.tup ds)
  | lst {a : Addr} {vs : List V} {ds : List D} (h : G a = some (.lst vs)) (r : Reps P G vs ds) : Rep P G (.ref a) (.lst ds)
  | ins {a dx : Addr} {c : Nat} {ci : ClI} {fs : List (Str × V)} {vs : List V} {ds : List D} (h : G a = some (.ins (P.ca c) dx fs)) (hc : P.T.cls[c]? = some ci) (hi : InsOk ci.fields fs vs) (r : Reps P G vs ds) : Rep P G (.ref a) (.ins c ds)
inductive Reps (P : Par) (G : Hp) : List V → List D → Prop
  | nil : Reps P G [] []
  | cons {v : V} {vs : List V} {d : D} {ds : List D} (h : Rep P G v d) (r : Reps P G vs ds) : Reps P G (v :: vs) (d :: ds)
end
theorem Same.seqT {K : PySem.W.Frag} {H H' : Hp} {a : Addr} {xs : List V} (e : Same H H') (h : SqT K H a xs) : SqT K H' a xs := by
  rcases h with (h | ⟨o, h⟩) | h
  · exact .inl (.inl (e _ _ h))
  · exact .inl (.inr ⟨o, e _ _ h⟩)
  · exact .inr h
mutual
theorem Rep.mono {P : Par} {G G' : Hp} (s : Same G G') : ∀ {v : V} {d : D}, Rep P G v d → Rep P G' v d
  | _, _, .non => .non
  | _, _, .bl b => .bl b
  | _, _, .int i => .int i
  | _, _, .str x => .str x
  | _, _, .tup h r => .tup (s _ _ h) (Reps.mono s r)
  | _, _, .lst h r => .lst (s _ _ h) (Reps.mono s r)
  | _, _, .ins h hc hi r => .ins (s _ _ h) hc hi (Reps.mono s r)
theorem Reps.mono {P : Par} {G G' : Hp} (s : Same G G') : ∀ {vs : List V} {ds : List D}, Reps P G vs ds → Reps P G' vs ds
  | _, _, .nil => .nil
  | _, _, .cons h r => .cons (Rep.mono s h) (Reps.mono s r)
end
theorem Reps.length {P : Par} {G : Hp} : ∀ {vs : List V} {ds : List D}, Reps P G vs ds → vs.length = ds.length
  | _, _, .nil => rfl
  | _, _, .cons _ r => congrArg (· + 1) (Reps.length r)
theorem Reps.get {P : Par} {G : Hp} : ∀ {vs : List V} {ds : List D} {i : Nat} {d : D}, Reps P G vs ds → ds[i]? = some d → ∃ v, vs[i]? = some v ∧ Rep P G v d
  | _, _, _, _, .nil, e => by simp at e
  | _, _, 0, _, .cons h _, e => by simp at e; subst e; exact ⟨_, rfl, h⟩
  | _, _, i + 1, d, .cons _ r, e => by
    obtain ⟨v, h1, h2⟩ := Reps.get (i := i) (d := d) r (by simpa using e)
    exact ⟨v, by simpa using h1, h2⟩
theorem Reps.getV {P : Par} {G : Hp} : ∀ {vs : List V} {ds : List D} {i : Nat} {v : V}, Reps P G vs ds → vs[i]? = some v → ∃ d, ds[i]? = some d ∧ Rep P G v d
  | _, _, _, _, .nil, e => by simp at e
  | _, _, 0, _, .cons h _, e => by simp at e; subst e; exact ⟨_, rfl, h⟩
  | _, _, i + 1, d, .cons _ r, e => by
    obtain ⟨v, h1, h2⟩ := Reps.getV (i := i) (v := d) r (by simpa using e)
    exact ⟨v, by simpa using h1, h2⟩
theorem Reps.append {P : Par} {G : Hp} : ∀ {vs ws : List V} {ds es : List D}, Reps P G vs ds → Reps P G ws es → Reps P G (vs ++ ws) (ds ++ es)
  | _, _, _, _, .nil, s => s
  | _, _, _, _, .cons h r, s => .cons h (Reps.append r s)
theorem Reps.take {P : Par} {G : Hp} : ∀ {vs : List V} {ds : List D} (n : Nat), Reps P G vs ds → Reps P G (vs.take n) (ds.take n)
  | _, _, 0, _ => .nil
  | _, _, _ + 1, .nil => .nil
  | _, _, n + 1, .cons h r => .cons h (Reps.take n r)
theorem Reps.drop {P : Par} {G : Hp} : ∀ {vs : List V} {ds : List D} (n : Nat), Reps P G vs ds → Reps P G (vs.drop n) (ds.drop n)
  | _, _, 0, r => r
  | _, _, _ + 1, .nil => .nil
  | _, _, n + 1, .cons _ r => Reps.drop n r
theorem Reps.set {P : Par} {G : Hp} {v : V} {d : D} (h : Rep P G v d) : ∀ {vs : List V} {ds : List D} (i : Nat), Reps P G vs ds → Reps P G (vs.set i v) (ds.set i d)
  | _, _, _, .nil => .nil
  | _, _, 0, .cons _ r => .cons h r
  | _, _, i + 1, .cons q r => .cons q (Reps.set h i r)
theorem Reps.rep {P : Par} {G : Hp} {vs : List V} {ds : List D} (h : Reps P G vs ds) : ∀ k : Nat, Reps P G (List.replicate k vs).flatten (List.replicate k ds).flatten
  | 0 => .nil
  | k + 1 => by
    rw [List.replicate_succ, List.replicate_succ, List.flatten_cons, List.flatten_cons]
    exact h.append (Reps.rep h k)
theorem Reps.reverse {P : Par} {G : Hp} : ∀ {vs : List V} {ds : List D}, Reps P G vs ds → Reps P G vs.reverse ds.reverse
  | _, _, .nil => .nil
  | _, _, .cons h r => by
    rw [List.reverse_cons, List.reverse_cons]
    exact (Reps.reverse r).append (.cons h .nil)
theorem Reps.ints {P : Par} {G : Hp} : ∀ (ns : List Int), Reps P G (ns.map V.int) (ns.map D.int)
  | [] => .nil
  | n :: ns => .cons (.int n) (Reps.ints ns)
theorem Reps.strs {P : Par} {G : Hp} : ∀ (ns : List Str), Reps P G (ns.map V.str) (ns.map D.str)
  | [] => .nil
  | n :: ns => .cons (.str n) (Reps.strs ns)
theorem Reps.intsOf {P : Par} {G : Hp} : ∀ {vs : List V} {ds : List D} {ns : List Int}, Reps P G vs ds → PL.intsOf ds = some ns → vs = ns.map V.int ∧ ds = ns.map D.int
  | _, _, _, .nil, e => by
    simp only [PL.intsOf, Option.some.injEq] at e
    subst e
    exact ⟨rfl, rfl⟩
  | _, _, ns, .cons (d := d) (ds := ds) h r, e => by
    cases h with
    | int i =>
      simp only [PL.intsOf] at e
      cases q : PL.intsOf ds with
      | none => rw [q] at e; simp at e
      | some ms =>
        rw [q] at e
        simp only [Option.map_some, Option.some.injEq] at e
        subst e
        obtain ⟨e1, e2⟩ := Reps.intsOf r q
        exact ⟨by rw [e1]; rfl, by rw [e2]; rfl⟩
    | _ => simp [PL.intsOf] at e
theorem Reps.strsOf {P : Par} {G : Hp} : ∀ {vs : List V} {ds : List D} {ns : List Str}, Reps P G vs ds → PL.strsOf ds = some ns → vs = ns.map V.str ∧ ds = ns.map D.str
  | _, _, _, .nil, e => by
    simp only [PL.strsOf, Option.some.injEq] at e
    subst e
    exact ⟨rfl, rfl⟩
  | _, _, ns, .cons (d := d) (ds := ds) h r, e => by
    cases h with
    | str i =>
      simp only [PL.strsOf] at e
      cases q : PL.strsOf ds with
      | none => rw [q] at e; simp at e
      | some ms =>
        rw [q] at e
        simp only [Option.map_some, Option.some.injEq] at e
        subst e
        obtain ⟨e1, e2⟩ := Reps.strsOf r q
        exact ⟨by rw [e1]; rfl, by rw [e2]; rfl⟩
    | _ => simp [PL.strsOf] at e

/-! ### steps -/
/-- from (G, H) to (G', H'): nothing that was tracked changes, G (what stands still) grows by new objects alone -/
structure Step (G H G' H' : Hp) : Prop where
  hh : Same H H'
  gg : Same G G'
  gh : Same G' H'
  nw : ∀ a, H a ≠ none → G' a = G a
theorem Step.refl {G H : Hp} (s : Same G H) : Step G H G H := ⟨Same.refl _, Same.refl _, s, fun _ _ => rfl⟩
theorem _root_.L2.Same.ne {H H' : Hp} (s : Same H H') {a : Addr} (h : H a ≠ none) : H' a ≠ none := by
  cases q : H a with
  | none => exact absurd q h
  | some o => rw [s a o q]; simp
theorem Step.trans {G H G1 H1 G2 H2 : Hp} (a : Step G H G1 H1) (b : Step G1 H1 G2 H2) : Step G H G2 H2 :=
  ⟨a.hh.trans b.hh, a.gg.trans b.gg, b.gh, fun c hc => (b.nw c (a.hh.ne hc)).trans (a.nw c hc)⟩
theorem same_upd {H : Hp} {p : Addr} {o : HO} (h : H p = none) : Same H (upd H p o) := fun b u e => by
  rw [upd_ne (ne_of_none e h)]
  exact e
/-- a new object, standing still -/
theorem Step.new {G H : Hp} {p : Addr} {o : HO} (s : Same G H) (h : H p = none) : Step G H (upd G p o) (upd H p o) := by
  have hg : G p = none := s.free h
  refine ⟨same_upd h, same_upd hg, fun b u e => ?_, fun a ha => ?_⟩
  · by_cases q : b = p
    · subst q; rw [upd_same] at e ⊢; exact e
    · rw [upd_ne q] at e ⊢; exact s _ _ e
  · have q : a ≠ p := fun z => ha (by rw [z]; exact h)
    exact upd_ne q
/-- a new object, ours -/
theorem Step.mine {G H : Hp} {p : Addr} {o : HO} (s : Same G H) (h : H p = none) : Step G H G (upd H p o) :=
  ⟨same_upd h, Same.refl _, s.trans (same_upd h), fun _ _ => rfl⟩
/-- an object that came since is let stand still -/
theorem Step.still {G H G1 H1 : Hp} {p : Addr} {o : HO} (a : Step G H G1 H1) (h : H p = none) (h1 : H1 p = some o) (g : G1 p = none) : Step G H (upd G1 p o) H1 := by
  refine ⟨a.hh, a.gg.trans (same_upd g), fun b u e => ?_, fun c hc => ?_⟩
  · by_cases q : b = p
    · subst q; rw [upd_same] at e; rw [h1]; exact e
    · rw [upd_ne q] at e; exact a.gh _ _ e
  · have q : c ≠ p := fun z => hc (by rw [z]; exact h)
    rw [upd_ne q]
    exact a.nw c hc

/-- a value's data, from the start H on -/
def RV (P : Par) (H G' H' : Hp) (v : V) (r : Vl) : Prop := match r with
  | .val d => Rep P G' v d
  | .own ds => ∃ p vs, v = .ref p ∧ H' p = some (.lst vs) ∧ G' p = none ∧ H p = none ∧ Reps P G' vs ds
/-- a value that is looked at: a list may be anybody's -/
def RP (P : Par) (_H G' H' : Hp) (v : V) (d : D) : Prop := Rep P G' v d ∨ ∃ p vs ds, v = .ref p ∧ d = .lst ds ∧ SqL P.K H' p vs ∧ Reps P G' vs ds
/-- .. and is tracked -/
def RQ (P : Par) (_H G' H' : Hp) (v : V) (d : D) : Prop := Rep P G' v d ∨ ∃ p vs ds, v = .ref p ∧ d = .lst ds ∧ H' p = some (.lst vs) ∧ Reps P G' vs ds
/-- data alone -/
def RD (P : Par) (_H G' _H' : Hp) (v : V) (d : D) : Prop := Rep P G' v d
def RDs (P : Par) (_H G' _H' : Hp) (vs : List V) (ds : List D) : Prop := Reps P G' vs ds
def RB (_H _G' _H' : Hp) (b : Bool) (k : Bool) : Prop := b = k
def RO (_H _G' _H' : Hp) (b : Option Int) (k : Option Int) : Prop := b = k
theorem RV.toP {P : Par} {H G' H' : Hp} {v : V} {r : Vl} (h : RV P H G' H' v r) : RP P H G' H' v r.d := by
  cases r with
  | val d => exact .inl h
  | own ds =>
    obtain ⟨p, vs, e, h1, _, _, r⟩ := h
    exact .inr ⟨p, vs, ds, e, rfl, SqL.of h1, r⟩
theorem RV.toQ {P : Par} {H G' H' : Hp} {v : V} {r : Vl} (h : RV P H G' H' v r) : RQ P H G' H' v r.d := by
  cases r with
  | val d => exact .inl h
  | own ds =>
    obtain ⟨p, vs, e, h1, _, _, r⟩ := h
    exact .inr ⟨p, vs, ds, e, rfl, h1, r⟩
theorem RQ.toP {P : Par} {H G' H' : Hp} {v : V} {d : D} (h : RQ P H G' H' v d) : RP P H G' H' v d := by
  rcases h with h | ⟨p, vs, ds, e1, e2, h1, r⟩
  · exact .inl h
  · exact .inr ⟨p, vs, ds, e1, e2, SqL.of h1, r⟩
theorem RP.step {P : Par} {H0 G H G' H' : Hp} {v : V} {d : D} (h : RP P H0 G H v d) (s : Step G H G' H') : RP P H0 G' H' v d := by
  rcases h with h | ⟨p, vs, ds, e1, e2, h1, r⟩
  · exact .inl (h.mono s.gg)
  · exact .inr ⟨p, vs, ds, e1, e2, s.hh.seq h1, r.mono s.gg⟩
theorem RQ.step {P : Par} {H0 G H G' H' : Hp} {v : V} {d : D} (h : RQ P H0 G H v d) (s : Step G H G' H') : RQ P H0 G' H' v d := by
  rcases h with h | ⟨p, vs, ds, e1, e2, h1, r⟩
  · exact .inl (h.mono s.gg)
  · exact .inr ⟨p, vs, ds, e1, e2, s.hh _ _ h1, r.mono s.gg⟩
/-- an own list is let stand still -/
theorem RV.still {P : Par} {G H G' H' : Hp} {v : V} {r : Vl} (h : RV P H G' H' v r) (s : Step G H G' H') : ∃ G2, Step G H G2 H' ∧ Same G' G2 ∧ Rep P G2 v r.d := by
  cases r with
  | val d => exact ⟨G', s, Same.refl _, h⟩
  | own ds =>
    obtain ⟨p, vs, e, h1, h2, h3, r⟩ := h
    subst e
    exact ⟨upd G' p (.lst vs), s.still h3 h1 h2, same_upd h2, .lst upd_same (r.mono (same_upd h2))⟩

/-- an error's class and its fields -/
def ErrRep (P : Par) (G' H' : Hp) (cls : Value) (d : Option Addr) (k : Nat) (fs : List D) : Prop :=
  ∃ xi, P.T.exs[k]? = some xi ∧ cls = .ref (P.xa k) ∧ (xi.fields = [] ∨ ∃ dd fv vs, d = some dd ∧ H' dd = some (.xd fv) ∧ Reps P G' vs fs ∧ ∀ (j : Nat) n v, xi.fields[j]? = some n → vs[j]? = some v → fv.lookup n = some v)
theorem ErrRep.step {P : Par} {G H G' H' : Hp} {cls : Value} {d : Option Addr} {k : Nat} {fs : List D} (h : ErrRep P G H cls d k fs) (s : Step G H G' H') : ErrRep P G' H' cls d k fs := by
  obtain ⟨xi, h1, h2, h3⟩ := h
  refine ⟨xi, h1, h2, ?_⟩
  rcases h3 with h3 | ⟨dd, fv, vs, e1, e2, e3, e4⟩
  · exact .inl h3
  · exact .inr ⟨dd, fv, vs, e1, s.hh _ _ e2, e3.mono s.gg, e4⟩

/-! ### the frame -/
/-- where the lists lie that are only looked at; the exception that is in hand: its address, class and own dict -/
structure Hand where
  hk : Hp
  ex : Option (Addr × Value × Option Addr)
  ob : Option (Nat × Addr)
def SlR (P : Par) (cx : Hand) (H0 G H : Hp) (o : Option (Option V)) (s : Sl) : Prop := match s with
  | .no => True
  | .val d => ∃ v, o = some (some v) ∧ Rep P G v d
  | .own ds => ∃ p vs, o = some (some (.ref p)) ∧ H p = some (.lst vs) ∧ G p = none ∧ H0 p = none ∧ Reps P G vs ds
  | .pk ds => ∃ p vs, o = some (some (.ref p)) ∧ SqL P.K cx.hk p vs ∧ Reps P G vs ds
  | .exc k fs => ∃ a cls d, cx.ex = some (a, cls, d) ∧ o = some (some (.ref a)) ∧ ErrRep P G H cls d k fs
  | .obj c ds => ∃ x dx fs vs ci, o = some (some (.ref x)) ∧ H x = some (.ins (P.ca c) dx fs) ∧ G x = none ∧ H0 x = none ∧ P.T.cls[c]? = some ci ∧ InsOk ci.fields fs vs ∧ Reps P G vs ds ∧ cx.ob = some (c, x)
/-- the list or the instance that a slot holds alone -/
def held (s : Sl) (o : Option (Option V)) (p : Addr) : Prop := match s with
  | .own _ => o = some (some (.ref p))
  | .obj _ _ => o = some (some (.ref p))
  | _ => False
structure Rel (P : Par) (cx : Hand) (G0 H0 G H : Hp) (σ : St) (env : Env) : Prop where
  hk : Same cx.hk H0
  hh : Same H0 H
  gg : Same G0 G
  gh : Same G H
  nw : ∀ a, H0 a ≠ none → G a = G0 a
  len : σ.length = env.length
  sl : ∀ (i : Nat) s, env[i]? = some s → SlR P cx H0 G H σ[i]? s
  dis : ∀ (i j : Nat) s t p, env[i]? = some s → env[j]? = some t → held s σ[i]? p → held t σ[j]? p → i = j
theorem SlR.step {P : Par} {cx : Hand} {H0 G H G' H' : Hp} {o : Option (Option V)} {s : Sl} (h : SlR P cx H0 G H o s) (st : Step G H G' H') : SlR P cx H0 G' H' o s := by
  cases s with
  | no => trivial
  | val d => obtain ⟨v, e, r⟩ := h; exact ⟨v, e, r.mono st.gg⟩
  | own ds =>
    obtain ⟨p, vs, e, h1, h2, h3, r⟩ := h
    exact ⟨p, vs, e, st.hh _ _ h1, (st.nw p (by rw [h1]; simp)).trans h2, h3, r.mono st.gg⟩
  | pk ds => obtain ⟨p, vs, e, h1, r⟩ := h; exact ⟨p, vs, e, h1, r.mono st.gg⟩
  | exc k fs => obtain ⟨a, cls, d, e1, e2, r⟩ := h; exact ⟨a, cls, d, e1, e2, r.step st⟩
  | obj c ds =>
    obtain ⟨x, dx, fs, vs, ci, e, h1, h2, h3, h4, h5, r, ho⟩ := h
    exact ⟨x, dx, fs, vs, ci, e, st.hh _ _ h1, (st.nw x (by rw [h1]; simp)).trans h2, h3, h4, h5, r.mono st.gg, ho⟩
theorem Rel.step {P : Par} {cx : Hand} {G0 H0 G H G' H' : Hp} {σ : St} {env : Env} (r : Rel P cx G0 H0 G H σ env) (st : Step G H G' H') : Rel P cx G0 H0 G' H' σ env :=
  ⟨r.hk, r.hh.trans st.hh, r.gg.trans st.gg, st.gh, fun a ha => (st.nw a (r.hh.ne ha)).trans (r.nw a ha), r.len, fun i s e => (r.sl i s e).step st, r.dis⟩

/-! ### readings -/
def Post {α β : Type} (P : Par) (W : WX) (σ : St) (G H : Hp) (R : Hp → Hp → Hp → β → α → Prop) (r : Res α) (Q : β → Hp → Prop) : Prop := match r with
  | .ok a => ∀ x H' G', Step G H G' H' → R H G' H' x a → Q x H'
  | .err k fs => ∀ cls d H' G', Step G H G' H' → ErrRep P G' H' cls d k fs → W cls d σ H'
  | .bad => False
def tR {α β : Type} (P : Par) (cx : Hand) (G0 H0 : Hp) (W : WX) (R : Hp → Hp → Hp → β → α → Prop) (f : Env → Res α) : St → Hp → (β → Hp → Prop) → Prop := fun σ H Q =>
  ∃ G env, Rel P cx G0 H0 G H σ env ∧ Post P W σ G H R (f env) Q
/-- a relation that does not mind an earlier start -/
def Anti {α β : Type} (R : Hp → Hp → Hp → β → α → Prop) : Prop := ∀ H H1 G' H' x a, Same H H1 → R H1 G' H' x a → R H G' H' x a
theorem anti_RV {P : Par} : Anti (RV P) := fun H H1 G' H' x a s h => by
  cases a with
  | val d => exact h
  | own ds =>
    obtain ⟨p, vs, e, h1, h2, h3, r⟩ := h
    exact ⟨p, vs, e, h1, h2, s.free h3, r⟩
theorem anti_RP {P : Par} : Anti (RP P) := fun _ _ _ _ _ _ _ h => h
theorem anti_RQ {P : Par} : Anti (RQ P) := fun _ _ _ _ _ _ _ h => h
theorem anti_RD {P : Par} : Anti (RD P) := fun _ _ _ _ _ _ _ h => h
theorem anti_RDs {P : Par} : Anti (RDs P) := fun _ _ _ _ _ _ _ h => h
theorem anti_RB : Anti RB := fun _ _ _ _ _ _ _ h => h
theorem anti_RO : Anti RO := fun _ _ _ _ _ _ _ h => h
section
variable {α β γ δ : Type} {P : Par} {W : WX} {σ : St} {G H G1 H1 : Hp} {R : Hp → Hp → Hp → β → α → Prop} {R1 : Hp → Hp → Hp → δ → γ → Prop}
theorem Post.after {r : Res α} {Q : β → Hp → Prop} (hR : Anti R) (s : Step G H G1 H1) (h : Post P W σ G H R r Q) : Post P W σ G1 H1 R r Q := by
  cases r with
  | ok a => exact fun x H' G' s' q => h x H' G' (s.trans s') (hR _ _ _ _ _ _ s.hh q)
  | err k fs => exact fun cls d H' G' s' q => h cls d H' G' (s.trans s') q
  | bad => exact h
theorem Post.bind {f : Res γ} {k : γ → Res α} {Q : β → Hp → Prop} {Q1 : δ → Hp → Prop} (hR : Anti R) (h : Post P W σ G H R (f.bind k) Q)
    (hk : ∀ a x H1 G1, Step G H G1 H1 → R1 H G1 H1 x a → Post P W σ G1 H1 R (k a) Q → Q1 x H1) : Post P W σ G H R1 f Q1 := by
  cases f with
  | ok a => exact fun x H' G' s q => hk a x H' G' s q (Post.after hR s h)
  | err k fs => exact h
  | bad => exact h
theorem Post.imp {r : Res α} {Q Q' : β → Hp → Prop} (h : Post P W σ G H R r Q) (hq : ∀ a x H' G', Step G H G' H' → R H G' H' x a → r = .ok a → Q x H' → Q' x H') : Post P W σ G H R r Q' := by
  cases r with
  | ok a => exact fun x H' G' s q => hq a x H' G' s q rfl (h x H' G' s q)
  | err k fs => exact h
  | bad => exact h
end
theorem _root_.L2.PE.imp {X : Cx} {e : Expr} {t t' : TE} (h : PE X e t) (i : ∀ σ H Q, t' σ H Q → t σ H Q) : PE X e t' := ⟨fun pins s σ H Q I q => h.run pins s σ H Q I (i σ H Q q)⟩
theorem _root_.L2.PT.imp {X : Cx} {e : Expr} {t t' : TT} (h : PT X e t) (i : ∀ σ H Q, t' σ H Q → t σ H Q) : PT X e t' := ⟨fun pins s σ H Q I q => h.run pins s σ H Q I (i σ H Q q)⟩
theorem _root_.L2.PW.imp {X : Cx} {e : Expr} {t t' : TT} (h : PW X e t) (i : ∀ σ H Q, t' σ H Q → t σ H Q) : PW X e t' := ⟨fun w pins s σ H Q I q => h.run w pins s σ H Q I (i σ H Q q)⟩
theorem _root_.L2.PA.imp {X : Cx} {e : List Expr} {t t' : TA} (h : PA X e t) (i : ∀ σ H Q, t' σ H Q → t σ H Q) : PA X e t' := ⟨fun pos pins s σ H Q I q => h.run pos pins s σ H Q I (i σ H Q q)⟩
theorem _root_.L2.PS.imp {X : Cx} {e : Stmt} {t t' : TS} (h : PS X e t) (i : ∀ D σ H, t' D σ H → t D σ H) : PS X e t' := ⟨fun pins s σ H D I q => h.run pins s σ H D I (i D σ H q)⟩
theorem _root_.L2.PSs.imp {X : Cx} {e : List Stmt} {t t' : TS} (h : PSs X e t) (i : ∀ D σ H, t' D σ H → t D σ H) : PSs X e t' := ⟨fun pins s σ H D I q => h.run pins s σ H D I (i D σ H q)⟩

section
variable {X : Cx} {T : Tab} {ca xa : Nat → Addr} {cx : Hand} {G0 H0 : Hp} {W : WX}
abbrev PX (X : Cx) (T : Tab) (ca xa : Nat → Addr) : Par := ⟨X.K, T, ca, xa⟩
/-- what an expression, an operand .. is shown to be -/
abbrev SE (X : Cx) (T : Tab) (ca xa : Nat → Addr) (cx : Hand) (G0 H0 : Hp) (W : WX) (e : Expr) (f : Env → Res Vl) : Prop := PE X e (tR (PX X T ca xa) cx G0 H0 W (RV (PX X T ca xa)) f)
abbrev SP' (X : Cx) (T : Tab) (ca xa : Nat → Addr) (cx : Hand) (G0 H0 : Hp) (W : WX) (e : Expr) (f : Env → Res D) : Prop := PE X e (tR (PX X T ca xa) cx G0 H0 W (RP (PX X T ca xa)) f)
abbrev SQ (X : Cx) (T : Tab) (ca xa : Nat → Addr) (cx : Hand) (G0 H0 : Hp) (W : WX) (e : Expr) (f : Env → Res D) : Prop := PE X e (tR (PX X T ca xa) cx G0 H0 W (RQ (PX X T ca xa)) f)
abbrev SD (X : Cx) (T : Tab) (ca xa : Nat → Addr) (cx : Hand) (G0 H0 : Hp) (W : WX) (e : Expr) (f : Env → Res D) : Prop := PE X e (tR (PX X T ca xa) cx G0 H0 W (RD (PX X T ca xa)) f)
abbrev ST (X : Cx) (T : Tab) (ca xa : Nat → Addr) (cx : Hand) (G0 H0 : Hp) (W : WX) (e : Expr) (f : Env → Res Bool) : Prop := PT X e (tR (PX X T ca xa) cx G0 H0 W RB f)
abbrev SA (X : Cx) (T : Tab) (ca xa : Nat → Addr) (cx : Hand) (G0 H0 : Hp) (W : WX) (e : List Expr) (f : Env → Res (List D)) : Prop := PA X e (tR (PX X T ca xa) cx G0 H0 W (RDs (PX X T ca xa)) f)

/-- constants -/
theorem s_const {e : Expr} {v : V} {d : D} (h : PE X e (tC v)) (r : ∀ G, Rep (PX X T ca xa) G v d) : SE X T ca xa cx G0 H0 W e fun _ => .ok (.val d) :=
  h.imp fun σ H Q ⟨G, env, rel, p⟩ => p v H G (Step.refl rel.gh) (r G)
theorem s_var {i : Nat} {x : Str} {pos : Pos} (hN : X.N[i]? = some x) (hv : Vis X.env.scope x) (hd : (x == ("__debug__" : Str)) = false) (hcd : (x == ("__classdict__" : Str)) = false) : SE X T ca xa cx G0 H0 W (.Name x pos) fun env => getv env i :=
  (pe_var hN hv hd hcd).imp fun σ H Q ⟨G, env, rel, p⟩ => by
    dsimp only [getv] at p
    cases e : env[i]? with
    | none => rw [e] at p; exact p.elim
    | some s =>
      have q := rel.sl i s e
      rw [e] at p
      cases s with
      | val d =>
        obtain ⟨v, e2, r⟩ := q
        exact ⟨v, e2, p v H G (Step.refl rel.gh) r⟩
      | _ => exact p.elim
theorem s_peek {i : Nat} {x : Str} {pos : Pos} (hN : X.N[i]? = some x) (hv : Vis X.env.scope x) (hd : (x == ("__debug__" : Str)) = false) (hcd : (x == ("__classdict__" : Str)) = false) : SP' X T ca xa cx G0 H0 W (.Name x pos) fun env => peek env i :=
  (pe_var hN hv hd hcd).imp fun σ H Q ⟨G, env, rel, p⟩ => by
    dsimp only [peek] at p
    cases e : env[i]? with
    | none => rw [e] at p; exact p.elim
    | some s =>
      have q := rel.sl i s e
      rw [e] at p
      cases s with
      | val d =>
        obtain ⟨v, e2, r⟩ := q
        exact ⟨v, e2, p v H G (Step.refl rel.gh) (.inl r)⟩
      | own ds =>
        obtain ⟨a, vs, e2, h1, _, _, r⟩ := q
        exact ⟨_, e2, p _ H G (Step.refl rel.gh) (.inr ⟨a, vs, ds, rfl, rfl, SqL.of h1, r⟩)⟩
      | pk ds =>
        obtain ⟨a, vs, e2, h1, r⟩ := q
        exact ⟨_, e2, p _ H G (Step.refl rel.gh) (.inr ⟨a, vs, ds, rfl, rfl, (rel.hk.trans rel.hh).seq h1, r⟩)⟩
      | _ => exact p.elim
/-- looked at by itself -/
theorem s_toP {e : Expr} {f : Env → Res Vl} (h : SE X T ca xa cx G0 H0 W e f) : SP' X T ca xa cx G0 H0 W e fun env => (f env).bind fun x => .ok x.d :=
  h.imp fun σ H Q ⟨G, env, rel, p⟩ => ⟨G, env, rel, Post.bind anti_RP p fun a x H1 G1 s r q => q x H1 G1 (Step.refl s.gh) r.toP⟩
theorem s_toQ {e : Expr} {f : Env → Res Vl} (h : SE X T ca xa cx G0 H0 W e f) : SQ X T ca xa cx G0 H0 W e fun env => (f env).bind fun x => .ok x.d :=
  h.imp fun σ H Q ⟨G, env, rel, p⟩ => ⟨G, env, rel, Post.bind anti_RQ p fun a x H1 G1 s r q => q x H1 G1 (Step.refl s.gh) r.toQ⟩
/-- let stand still -/
theorem s_toD {e : Expr} {f : Env → Res Vl} (h : SE X T ca xa cx G0 H0 W e f) : SD X T ca xa cx G0 H0 W e fun env => (f env).bind fun x => .ok x.d :=
  h.imp fun σ H Q ⟨G, env, rel, p⟩ => by
    refine ⟨G, env, rel, ?_⟩
    cases e : f env with
    | ok a =>
      simp only [e, Res.bind_ok] at p
      intro x H1 G1 s r
      obtain ⟨G2, s2, _, r2⟩ := RV.still r s
      exact p x H1 G2 s2 r2
    | err k fs => simp only [e, Res.bind_err] at p; exact p
    | bad => simp only [e, Res.bind_bad] at p; exact p
end
end PL

set_option linter.all false
set_option Elab.async false
set_option maxRecDepth 100000
set_option maxHeartbeats 4000000
/-! Soundness, part 2: the operations. -/
namespace PL
open PySem PySem.Spec PyProof.Rows L2

/-! ### == -/
mutual
def toP : D → PyData
  | .non => .none
  | .bl b => .bool b
  | .int i => .int i
  | .str x => .str x
  | .tup xs => .tuple (toPs xs)
  | .lst xs => .list (toPs xs)
  | .ins _ _ => .dict []
def toPs : List D → List PyData
  | [] => []
  | x :: xs => toP x :: toPs xs
end
mutual
theorem eqD_toP : ∀ (a b : D) (n m : Nat), eqOk n a = true → eqOk m b = true → PyData.eqv (toP a) (toP b) = eqD a b
  | .non, b, _, _, _, _ => by cases b <;> simp [toP, PyData.eqv, eqD, eqOk] at *
  | .bl _, b, _, _, _, _ => by cases b <;> simp [toP, PyData.eqv, eqD, eqOk] at *
  | .int _, b, _, _, _, _ => by cases b <;> simp [toP, PyData.eqv, eqD, eqOk] at *
  | .str _, b, _, _, _, _ => by cases b <;> simp [toP, PyData.eqv, eqD, eqOk] at *
  | .tup xs, b, n, m, h1, h2 => by
    cases b with
    | tup ys =>
      cases n with
      | zero => simp [eqOk] at h1
      | succ n =>
        cases m with
        | zero => simp [eqOk] at h2
        | succ m =>
          simp only [toP, PyData.eqv, eqD]
          exact eqDs_toP xs ys n m (by simpa [eqOk] using h1) (by simpa [eqOk] using h2)
    | _ => simp [toP, PyData.eqv, eqD, eqOk] at *
  | .lst xs, b, n, m, h1, h2 => by
    cases b with
    | lst ys =>
      cases n with
      | zero => simp [eqOk] at h1
      | succ n =>
        cases m with
        | zero => simp [eqOk] at h2
        | succ m =>
          simp only [toP, PyData.eqv, eqD]
          exact eqDs_toP xs ys n m (by simpa [eqOk] using h1) (by simpa [eqOk] using h2)
    | _ => simp [toP, PyData.eqv, eqD, eqOk] at *
  | .ins _ _, _, n, _, h, _ => by cases n <;> simp [eqOk] at h
theorem eqDs_toP : ∀ (a b : List D) (n m : Nat), eqOks n a = true → eqOks m b = true → PyData.eqvAll (toPs a) (toPs b) = eqDs a b
  | [], [], _, _, _, _ => by simp [toPs, PyData.eqvAll, eqDs]
  | [], _ :: _, _, _, _, _ => by simp [toPs, PyData.eqvAll, eqDs]
  | _ :: _, [], _, _, _, _ => by simp [toPs, PyData.eqvAll, eqDs]
  | x :: xs, y :: ys, n, m, h1, h2 => by
    simp only [eqOks, Bool.and_eq_true] at h1 h2
    simp only [toPs, PyData.eqvAll, eqDs]
    rw [eqD_toP x y n m h1.1 h2.1, eqDs_toP xs ys n m h1.2 h2.2]
end
mutual
theorem eqOk_lay : ∀ (n : Nat) (d : D), eqOk n d = true → (toP d).canLay0 = true ∧ (toP d).depth ≤ n
  | n, .non, _ => by simp [toP, PyData.canLay0, PyData.depth]
  | n, .bl _, _ => by simp [toP, PyData.canLay0, PyData.depth]
  | n, .int _, _ => by simp [toP, PyData.canLay0, PyData.depth]
  | n, .str x, h => by
    have h' : PyData.strOk x = true := by cases n <;> simpa [eqOk] using h
    simp [toP, PyData.canLay0, PyData.depth, h']
  | 0, .tup _, h => by simp [eqOk] at h
  | 0, .lst _, h => by simp [eqOk] at h
  | n + 1, .tup xs, h => by
    obtain ⟨h1, h2⟩ := eqOks_lay n xs (by simpa [eqOk] using h)
    simp only [toP, PyData.canLay0, PyData.depth]
    exact ⟨h1, by omega⟩
  | n + 1, .lst xs, h => by
    obtain ⟨h1, h2⟩ := eqOks_lay n xs (by simpa [eqOk] using h)
    simp only [toP, PyData.canLay0, PyData.depth]
    exact ⟨h1, by omega⟩
  | n, .ins _ _, h => by cases n <;> simp [eqOk] at h
theorem eqOks_lay : ∀ (n : Nat) (d : List D), eqOks n d = true → PyData.canLayAll0 (toPs d) = true ∧ PyData.depthAll (toPs d) ≤ n
  | n, [], _ => by simp [toPs, PyData.canLayAll0, PyData.depthAll]
  | n, x :: xs, h => by
    simp only [eqOks, Bool.and_eq_true] at h
    obtain ⟨h1, h2⟩ := eqOk_lay n x h.1
    obtain ⟨h3, h4⟩ := eqOks_lay n xs h.2
    simp only [toPs, PyData.canLayAll0, PyData.depthAll, h1, h3, Bool.and_self, true_and]
    omega
end
theorem shaped_of {d : D} (h : eqOk 60 d = true) : SeqAt.shaped (toP d) = true := by
  obtain ⟨h1, h2⟩ := eqOk_lay 60 d h
  unfold SeqAt.shaped
  rw [h1, decide_eq_true (by omega : (toP d).depth ≤ 64)]
  rfl
mutual
theorem Rep.dp {P : Par} {G H : Hp} (s : Same G H) : ∀ {v : V} {d : D} {n : Nat}, Rep P G v d → eqOk n d = true → Dp P.K H v (toP d)
  | _, _, _, .non, _ => .non
  | _, _, _, .bl b, _ => .bl b
  | _, _, _, .int b, _ => .int b
  | _, _, _, .str b, _ => .str b
  | _, _, 0, .tup _ _, h => by simp [eqOk] at h
  | _, _, n + 1, .tup e r, h => .tup (SqT.of (s _ _ e)) (Reps.dp s r (n := n) (by simpa [eqOk] using h))
  | _, _, 0, .lst _ _, h => by simp [eqOk] at h
  | _, _, n + 1, .lst e r, h => .lst (SqL.of (s _ _ e)) (Reps.dp s r (n := n) (by simpa [eqOk] using h))
  | _, _, n, .ins _ _ _ _, h => by cases n <;> simp [eqOk] at h
theorem Reps.dp {P : Par} {G H : Hp} (s : Same G H) : ∀ {v : List V} {d : List D} {n : Nat}, Reps P G v d → eqOks n d = true → DpAll P.K H v (toPs d)
  | _, _, _, .nil, _ => .nil
  | _, _, n, .cons h r, e => by
    simp only [eqOks, Bool.and_eq_true] at e
    exact .cons (Rep.dp s h e.1) (Reps.dp s r e.2)
end
theorem RP.dp {P : Par} {H0 G H : Hp} {v : V} {d : D} (h : RP P H0 G H v d) (s : Same G H) {n : Nat} (e : eqOk n d = true) : Dp P.K H v (toP d) := by
  rcases h with h | ⟨p, vs, ds, rfl, rfl, h1, r⟩
  · exact h.dp s e
  · cases n with
    | zero => simp [eqOk] at e
    | succ n => exact .lst h1 (Reps.dp s r (by simpa [eqOk] using e))

/-! ### seen from the data -/
section
variable {P : Par} {H0 G H : Hp} {v : V}
theorem RP.int {i : Int} (h : RP P H0 G H v (.int i)) : v = .int i := by
  rcases h with h | ⟨_, _, _, _, e, _⟩
  · cases h; rfl
  · cases e
theorem RP.bl {i : Bool} (h : RP P H0 G H v (.bl i)) : v = .bl i := by
  rcases h with h | ⟨_, _, _, _, e, _⟩
  · cases h; rfl
  · cases e
theorem RP.str {i : Str} (h : RP P H0 G H v (.str i)) : v = .str i := by
  rcases h with h | ⟨_, _, _, _, e, _⟩
  · cases h; rfl
  · cases e
theorem RP.non (h : RP P H0 G H v .non) : v = .non := by
  rcases h with h | ⟨_, _, _, _, e, _⟩
  · cases h; rfl
  · cases e
theorem RP.lst {ds : List D} (s : Same G H) (h : RP P H0 G H v (.lst ds)) : ∃ p vs, v = .ref p ∧ SqL P.K H p vs ∧ Reps P G vs ds := by
  rcases h with h | ⟨p, vs, ds', e1, e2, h1, r⟩
  · cases h with
    | lst e r => exact ⟨_, _, rfl, SqL.of (s _ _ e), r⟩
  · cases e2
    exact ⟨p, vs, e1, h1, r⟩
theorem RP.tup {ds : List D} (h : RP P H0 G H v (.tup ds)) : ∃ p vs, v = .ref p ∧ G p = some (.tup vs) ∧ Reps P G vs ds := by
  rcases h with h | ⟨p, vs, ds', e1, e2, h1, r⟩
  · cases h with
    | tup e r => exact ⟨_, _, rfl, e, r⟩
  · cases e2
theorem RQ.int {i : Int} (h : RQ P H0 G H v (.int i)) : v = .int i := h.toP.int
theorem RQ.str {i : Str} (h : RQ P H0 G H v (.str i)) : v = .str i := h.toP.str
theorem RQ.tup {ds : List D} (h : RQ P H0 G H v (.tup ds)) : ∃ p vs, v = .ref p ∧ G p = some (.tup vs) ∧ Reps P G vs ds := h.toP.tup
theorem RQ.lst {ds : List D} (s : Same G H) (h : RQ P H0 G H v (.lst ds)) : ∃ p vs, v = .ref p ∧ H p = some (.lst vs) ∧ Reps P G vs ds := by
  rcases h with h | ⟨p, vs, ds', e1, e2, h1, r⟩
  · cases h with
    | lst e r => exact ⟨_, _, rfl, s _ _ e, r⟩
  · cases e2
    exact ⟨p, vs, e1, h1, r⟩
theorem RV.int {i : Int} (h : RV P H0 G H v (.val (.int i))) : v = .int i := by
  have h : Rep P G v (.int i) := h
  cases h; rfl
end

/-! ### new objects -/
section
variable {P : Par} {W : WX} {σ : St} {G H : Hp} {Q : VK}
theorem post_val {d : D} {v : V} (s : Same G H) (h : Post P W σ G H (RV P) (.ok (.val d)) Q) (r : Rep P G v d) : Q v H := h v H G (Step.refl s) r
theorem post_own {ds : List D} {vs : List V} {p : Addr} (s : Same G H) (h : Post P W σ G H (RV P) (.ok (.own ds)) Q) (r : Reps P G vs ds) (hp : H p = none) : Q (.ref p) (upd H p (.lst vs)) :=
  h _ _ _ (Step.mine s hp) ⟨p, vs, rfl, upd_same, s.free hp, hp, r⟩
theorem post_tup {ds : List D} {vs : List V} {p : Addr} (s : Same G H) (h : Post P W σ G H (RV P) (.ok (.val (.tup ds))) Q) (r : Reps P G vs ds) (hp : H p = none) : Q (.ref p) (upd H p (.tup vs)) :=
  h _ _ _ (Step.new s hp) (.tup upd_same (r.mono (same_upd (s.free hp))))
end

/-! ### two operands -/
section
variable {X : Cx} {T : Tab} {ca xa : Nat → Addr} {cx : Hand} {G0 H0 : Hp} {W : WX} {a b : Expr} {fa fb : Env → Res D} {pos : Pos}
abbrev OpQ (X : Cx) (T : Tab) (ca xa : Nat → Addr) (g : D → D → Res Vl) (r : R2) : Prop := ∀ (W : WX) (σ : St) (G H : Hp) (x y : V) (da db : D) (Q : VK), Same G H → RQ (PX X T ca xa) H G H x da → RQ (PX X T ca xa) H G H y db → Post (PX X T ca xa) W σ G H (RV (PX X T ca xa)) (g da db) Q → r x y H Q
theorem s_two {r : R2} {g : D → D → Res Vl} (hp : OpQ X T ca xa g r) (ha : SQ X T ca xa cx G0 H0 W a fa) (hb : SQ X T ca xa cx G0 H0 W b fb) (he : ∀ {ta tb : TE}, PE X a ta → PE X b tb → PE X e (tOp r ta tb)) :
    SE X T ca xa cx G0 H0 W e fun env => (fa env).bind fun x => (fb env).bind fun y => g x y :=
  (he ha hb).imp fun σ H Q ⟨G, env, rel, p⟩ => ⟨G, env, rel, Post.bind anti_RV p fun da x H1 G1 s1 r1 q1 => ⟨G1, env, rel.step s1, Post.bind anti_RV q1 fun db y H2 G2 s2 r2 q2 =>
    hp W σ G2 H2 x y da db Q s2.gh (r1.step s2) r2 q2⟩⟩
theorem oq_add : OpQ X T ca xa (bin .add) (fun x y H Q => (∃ i j, x = .int i ∧ y = .int j ∧ Q (.int (i + j)) H) ∨ (∃ i j, x = .str i ∧ y = .str j ∧ i.length + j.length ≤ sizeLine ∧ Q (.str (i ++ j)) H) ∨ rCat x y H Q ∨ rCatT X.K x y H Q) := by
  intro W σ G H x y da db Q s rx ry p
  cases da with
  | int i => cases db with
    | int j => exact .inl ⟨i, j, rx.int, ry.int, post_val s p (.int _)⟩
    | _ => exact False.elim p
  | str i => cases db with
    | str j =>
      simp only [bin] at p
      by_cases h : i.length + j.length ≤ SL
      · rw [if_pos h] at p
        exact .inr (.inl ⟨i, j, rx.str, ry.str, by rw [sizeLine_eq]; exact h, post_val s p (.str _)⟩)
      · rw [if_neg h] at p; exact False.elim p
    | _ => exact False.elim p
  | lst ds => cases db with
    | lst es =>
      simp only [bin] at p
      by_cases h : ds.length + es.length ≤ SL
      · rw [if_pos h] at p
        obtain ⟨a, vs, rfl, h1, r1⟩ := rx.lst s
        obtain ⟨b, ws, rfl, h2, r2⟩ := ry.lst s
        exact .inr (.inr (.inl ⟨a, b, vs, ws, rfl, rfl, h1, h2, by rw [sizeLine_eq, r1.length, r2.length]; exact h, fun q hq => post_own s p (r1.append r2) hq⟩))
      · rw [if_neg h] at p; exact False.elim p
    | _ => exact False.elim p
  | tup ds => cases db with
    | tup es =>
      simp only [bin] at p
      by_cases h : ds ≠ [] ∧ ds.length + es.length ≤ SL
      · rw [if_pos h] at p
        obtain ⟨a, vs, rfl, h1, r1⟩ := rx.tup
        obtain ⟨b, ws, rfl, h2, r2⟩ := ry.tup
        have nv : vs ≠ [] := fun z => h.1 (by
          have := r1.length
          rw [z] at this
          exact List.length_eq_zero_iff.mp this.symm)
        refine .inr (.inr (.inr ⟨a, b, vs, ws, rfl, rfl, SqT.of (s _ _ h1), SqT.of (s _ _ h2), nv, by rw [sizeLine_eq, r1.length, r2.length]; exact h.2, fun z => ?_, fun _ q hq => post_tup s p (r1.append r2) hq⟩))
        refine post_val s p (.tup h1 ?_)
        have := r1.append r2
        rw [z, List.append_nil] at this
        exact this
      · rw [if_neg h] at p; exact False.elim p
    | _ => exact False.elim p
  | _ => cases db <;> exact False.elim p
theorem mulOk_ok {i j : Int} (h : mulOk i j = true) : IntMulOk i j := by
  unfold mulOk at h
  simp only [Bool.or_eq_true, Bool.and_eq_true, decide_eq_true_eq] at h
  have e : big = 2 ^ 64 := by decide
  rw [e] at h
  rcases h with h | h | h
  · exact CMul.ok (.inl h)
  · exact CMul.ok (.inr h)
  · have b : ∀ x : Int, Builtin.Int.intBits x ≤ x.natAbs.log2 + 1 := fun x => by
      unfold Builtin.Int.intBits
      split <;> omega
    have b1 := b i
    have b2 := b j
    unfold IntMulOk
    intro q
    simp only [Bool.and_eq_true, decide_eq_true_eq] at q
    have q3 := q.2
    unfold Builtin.Int.intTooBig at q3
    simp only [decide_eq_true_eq] at q3
    have e27 : bitsLine = 134217728 := by decide
    rw [e27] at q3
    omega
theorem op_mulA : OpR X (binaryOp .Mult) (rI IntMulOk fun i j => .int (i * j)) := opI fun _ _ _ _ _ _ _ hc q => mul_int q hc
theorem oq_sub : OpQ X T ca xa (bin .sub) (rI0 fun i j => .int (i - j)) := by
  intro W σ G H x y da db Q s rx ry p
  cases da with
  | int i => cases db with
    | int j => exact ⟨i, j, rx.int, ry.int, post_val s p (.int _)⟩
    | _ => exact False.elim p
  | _ => cases db <;> exact False.elim p
theorem oq_mul : OpQ X T ca xa (bin .mul) (fun x y H Q => rI IntMulOk (fun i j => .int (i * j)) x y H Q ∨ rRep x y H Q) := by
  intro W σ G H x y da db Q s rx ry p
  cases da with
  | int i => cases db with
    | int j =>
      simp only [bin] at p
      by_cases h : mulOk i j = true
      · rw [if_pos h] at p
        exact .inl ⟨i, j, rx.int, ry.int, mulOk_ok h, post_val s p (.int _)⟩
      · rw [if_neg h] at p; exact False.elim p
    | _ => exact False.elim p
  | lst ds => cases db with
    | int j =>
      simp only [bin] at p
      by_cases h : -(2 ^ 63) ≤ j ∧ j < 2 ^ 63 ∧ ds.length * j.toNat ≤ SL
      · rw [if_pos h] at p
        obtain ⟨a, vs, rfl, h1, r1⟩ := rx.lst s
        exact .inr ⟨a, j, vs, rfl, ry.int, h1, h.1, h.2.1, by rw [sizeLine_eq, r1.length]; exact h.2.2, fun q hq => post_own s p (r1.rep _) hq⟩
      · rw [if_neg h] at p; exact False.elim p
    | _ => exact False.elim p
  | _ => cases db <;> exact False.elim p
/-- what a division of great numbers asks of where it stands: nobody hears of _pylong, and there is room -/
structure WdX (X : Cx) : Prop where
  stat : ∃ mc, X.base.Ns cStatics mc ∧ mc "sys.audit-hooks" = none ∧ mc "sys.dict" = none
  mods : ∃ mm, X.base.Ns sysModules mm ∧ mm "_pylong" = none
  main : ∃ mg bm ob, X.base.Ns mainGlobals mg ∧ mg "__builtins__" = some (.ref bm) ∧ X.base.get? bm = some ob ∧ ob.cls = .type "module" ∧ ob.dict = some builtinsNs
  tree : X.prog.given.tree = none
  top : ∃ env l, X.stack = env :: l ∧ env.scope.isGenerator = false ∧ env.scope.isCoroutine = false ∧ env.builtins = builtinsNs ∧ env.globals = mainGlobals
  dep : X.A.depth + 100 < recursionLimit
theorem WdX.room (w : WdX X) {pins : List (Addr × Obj)} {σ : St} {H : Hp} {s : Shared} (I : Inv X pins σ H s) : PySem.PylongRoom (model X.prog X.w) X.A s := by
  have hN : s.heap.NoSeer := Heap.NoSeer.keeps (⟨w.stat, w.mods, I.ok.mod.blt, w.main⟩ : X.base.NoSeer) I.bk
  obtain ⟨env, l, e, h1, h2, h3, h4⟩ := w.top
  exact PySem.PylongRoom.of I.nolimit w.dep (PySem.SeerAt.of (l := l) hN w.tree (by rw [I.ok.frames, e]) h1 h2 h3 h4)
theorem op_fdivA (wd : WdX X) : OpR X (binaryOp .FloorDiv) (rI (fun _ j => j ≠ 0) fun i j => .int (i.fdiv j)) := by
  intro pins s σ H x y v u Q I rx ry h
  obtain ⟨i, j, rfl, rfl, hc, q⟩ := h
  obtain ⟨t, rfl⟩ := rx
  obtain ⟨t', rfl⟩ := ry
  exact floordiv_int hc ⟨.int (i.fdiv j), H, I.tok _, ⟨_, rfl⟩, q⟩ (.inr (wd.room I))
theorem oq_fdiv : OpQ X T ca xa (bin .fdiv) (rI (fun _ j => j ≠ 0) fun i j => .int (i.fdiv j)) := by
  intro W σ G H x y da db Q s rx ry p
  cases da with
  | int i => cases db with
    | int j =>
      simp only [bin] at p
      by_cases h : divOk j = true
      · rw [if_pos h] at p
        unfold divOk at h
        exact ⟨i, j, rx.int, ry.int, of_decide_eq_true h, post_val s p (.int _)⟩
      · rw [if_neg h] at p; exact False.elim p
    | _ => exact False.elim p
  | _ => cases db <;> exact False.elim p
theorem oq_mod : OpQ X T ca xa (bin .mod) (rI (fun _ j => j ≠ 0) fun i j => .int (i.fmod j)) := by
  intro W σ G H x y da db Q s rx ry p
  cases da with
  | int i => cases db with
    | int j =>
      simp only [bin] at p
      by_cases h : j = 0
      · rw [if_pos h] at p; exact False.elim p
      · rw [if_neg h] at p
        exact ⟨i, j, rx.int, ry.int, h, post_val s p (.int _)⟩
    | _ => exact False.elim p
  | _ => cases db <;> exact False.elim p
theorem oq_pow : OpQ X T ca xa (bin .pow) (rI CPow fun i j => .int (i ^ j.toNat)) := by
  intro W σ G H x y da db Q s rx ry p
  cases da with
  | int i => cases db with
    | int j =>
      simp only [bin] at p
      by_cases h : powOk i j = true
      · rw [if_pos h] at p
        unfold powOk at h
        simp only [Bool.and_eq_true, decide_eq_true_eq] at h
        exact ⟨i, j, rx.int, ry.int, ⟨h.1, h.2.1, h.2.2⟩, post_val s p (.int _)⟩
      · rw [if_neg h] at p; exact False.elim p
    | _ => exact False.elim p
  | _ => cases db <;> exact False.elim p
/-- the operator of the text -/
def opOf : O2 → Operator
  | .add => .Add
  | .sub => .Sub
  | .mul => .Mult
  | .fdiv => .FloorDiv
  | .mod => .Mod
  | .pow => .Pow
theorem s_bin {o : O2} (wd : WdX X) (ha : SQ X T ca xa cx G0 H0 W a fa) (hb : SQ X T ca xa cx G0 H0 W b fb) : SE X T ca xa cx G0 H0 W (.BinOp a (opOf o) b pos) fun env => (fa env).bind fun x => (fb env).bind fun y => bin o x y := by
  cases o with
  | add => exact s_two oq_add ha hb fun p q => pe_op (op_add.or (op_add_str.or (op_cat.or op_catT))) p q
  | sub => exact s_two oq_sub ha hb fun p q => pe_op op_sub p q
  | mul => exact s_two oq_mul ha hb fun p q => pe_op (op_mulA.or op_rep) p q
  | fdiv => exact s_two oq_fdiv ha hb fun p q => pe_op (op_fdivA wd) p q
  | mod => exact s_two oq_mod ha hb fun p q => pe_op op_modN p q
  | pow => exact s_two oq_pow ha hb fun p q => pe_op op_pow p q
end
end PL

set_option linter.all false
set_option Elab.async false
set_option maxRecDepth 100000
set_option maxHeartbeats 4000000
/-! Soundness, part 3: comparisons, tests, items, built-ins. -/
namespace PL
open PySem PySem.Spec PyProof.Rows L2
def cmpOf : OC → CmpOp
  | .eq => .Eq
  | .ne => .NotEq
  | .lt => .Lt
  | .le => .LtE
  | .gt => .Gt
  | .ge => .GtE
  | .isN => .Is
  | .notN => .IsNot
  | .isin => .In
  | .notin => .NotIn
section
variable {X : Cx} {T : Tab} {ca xa : Nat → Addr} {cx : Hand} {G0 H0 : Hp} {W : WX} {a b c d : Expr} {fa fb fc fd : Env → Res D} {pos : Pos}
/-- what a comparison asks -/
def RC (P : Par) (o : OC) : R2 := fun x y H Q => ∃ G da db k, Same G H ∧ RP P H G H x da ∧ RP P H G H y db ∧ cmp o da db = .ok k ∧ Q (.bl k) H
theorem op_via {f : Value → Value → Sem Value} {r r' : R2} (h : OpR X f r) (i : ∀ x y H Q, r' x y H Q → r x y H Q) : OpR X f r' := fun pins s σ H x y v u Q I rx ry q => h pins s σ H x y v u Q I rx ry (i x y H Q q)
theorem flat_all {P : Par} {G : Hp} : ∀ {vs : List V} {ds : List D}, Reps P G vs ds → ds.all flatD = true → vs.all flatV = true
  | _, _, .nil, _ => rfl
  | _, _, .cons h r, e => by
    simp only [List.all_cons, Bool.and_eq_true] at e ⊢
    refine ⟨?_, flat_all r e.2⟩
    cases h <;> first | rfl | (simp [flatD] at e)
theorem eqV_eqD {P : Par} {G : Hp} {v w : V} {d e : D} (h : Rep P G v d) (h' : Rep P G w e) (f : flatD d = true) (f' : flatD e = true) : eqV v w = eqD d e := by
  cases h <;> cases h' <;> first | rfl | (simp [flatD] at f) | (simp [flatD] at f') | (simp [eqV, eqD])
theorem inV_any {P : Par} {G : Hp} {w : V} {e : D} (h' : Rep P G w e) (f' : flatD e = true) : ∀ {vs : List V} {ds : List D}, Reps P G vs ds → ds.all flatD = true → inV w vs = ds.any fun y => eqD y e
  | _, _, .nil, _ => rfl
  | _, _, .cons h r, q => by
    simp only [List.all_cons, Bool.and_eq_true] at q
    have ih := inV_any h' f' r q.2
    unfold inV at ih ⊢
    simp only [List.any_cons]
    rw [ih, eqV_eqD h h' q.1 f']
theorem any_toP {d : D} {n : Nat} (h : eqOk n d = true) : ∀ (ds : List D) (m : Nat), eqOks m ds = true → ((toPs ds).any fun z => PyData.eqv z (toP d)) = ds.any fun y => eqD y d
  | [], _, _ => rfl
  | x :: xs, m, q => by
    simp only [eqOks, Bool.and_eq_true] at q
    simp only [toPs, List.any_cons]
    rw [any_toP h xs m q.2, eqD_toP x d m n q.1 h]
theorem RP.rep {P : Par} {H0 G H : Hp} {v : V} {d : D} (h : RP P H0 G H v d) (f : flatD d = true) : Rep P G v d := by
  rcases h with h | ⟨_, _, _, _, rfl, _⟩
  · exact h
  · simp [flatD] at f
/-- is, is not of True and False -/
theorem op_isB {X : Cx} : OpR X (compareOp .Is) (fun x y H Q => ∃ a b, x = .bl a ∧ y = .bl b ∧ Q (.bl (a == b)) H) := by
  intro pins s σ H x y v u Q I rx ry h
  obtain ⟨a, b, rfl, rfl, q⟩ := h
  cases rx
  cases ry
  refine (?_ : wpAny (model X.prog X.w) X.A (compareOp .Is (.bool a) (.bool b)) _ _ s)
  have e : (EP X pins σ Q) (.bool (a == b)) s := ⟨.bl (a == b), H, I, rfl, q⟩
  cases a <;> cases b <;> exact wpAny_pure e
theorem op_notB {X : Cx} : OpR X (compareOp .IsNot) (fun x y H Q => ∃ a b, x = .bl a ∧ y = .bl b ∧ Q (.bl (!(a == b))) H) := by
  intro pins s σ H x y v u Q I rx ry h
  obtain ⟨a, b, rfl, rfl, q⟩ := h
  cases rx
  cases ry
  refine (?_ : wpAny (model X.prog X.w) X.A (compareOp .IsNot (.bool a) (.bool b)) _ _ s)
  have e : (EP X pins σ Q) (.bool (!(a == b))) s := ⟨.bl (!(a == b)), H, I, rfl, q⟩
  cases a <;> cases b <;> exact wpAny_pure e
theorem op_cmp (hu : X.A.units + 66 < cLine) (o : OC) : OpR X (compareOp (cmpOf o)) (RC (PX X T ca xa) o) := by
  have hu1 : X.A.units + 64 < cLine := by omega
  have hu2 : X.A.units + 65 < cLine := by omega
  cases o with
  | eq =>
    refine op_via (op_eqD hu1) fun x y H Q ⟨G, da, db, k, s, rx, ry, e, q⟩ => ?_
    simp only [cmp] at e
    split at e
    · rename_i h
      simp only [Bool.and_eq_true] at h
      cases e
      exact ⟨_, _, rx.dp s h.1, ry.dp s h.2, shaped_of h.1, shaped_of h.2, by rw [eqD_toP _ _ _ _ h.1 h.2]; exact q⟩
    · cases e
  | ne =>
    refine op_via (op_neD hu1) fun x y H Q ⟨G, da, db, k, s, rx, ry, e, q⟩ => ?_
    simp only [cmp] at e
    split at e
    · rename_i h
      simp only [Bool.and_eq_true] at h
      cases e
      exact ⟨_, _, rx.dp s h.1, ry.dp s h.2, shaped_of h.1, shaped_of h.2, by rw [eqD_toP _ _ _ _ h.1 h.2]; exact q⟩
    · cases e
  | lt =>
    refine op_via (op_lt.or op_lt_str) fun x y H Q ⟨G, da, db, k, s, rx, ry, e, q⟩ => ?_
    cases da <;> cases db <;> first
      | (cases e; exact .inl ⟨_, _, rx.int, ry.int, q⟩)
      | (cases e; exact .inr ⟨_, _, rx.str, ry.str, q⟩)
      | cases e
  | le =>
    refine op_via op_le fun x y H Q ⟨G, da, db, k, s, rx, ry, e, q⟩ => ?_
    cases da <;> cases db <;> first
      | (cases e; exact ⟨_, _, rx.int, ry.int, q⟩)
      | cases e
  | gt =>
    refine op_via op_gt fun x y H Q ⟨G, da, db, k, s, rx, ry, e, q⟩ => ?_
    cases da <;> cases db <;> first
      | (cases e; exact ⟨_, _, rx.int, ry.int, q⟩)
      | cases e
  | ge =>
    refine op_via op_ge fun x y H Q ⟨G, da, db, k, s, rx, ry, e, q⟩ => ?_
    cases da <;> cases db <;> first
      | (cases e; exact ⟨_, _, rx.int, ry.int, q⟩)
      | cases e
  | isN =>
    refine op_via (op_isN.or op_isB) fun x y H Q ⟨G, da, db, k, s, rx, ry, e, q⟩ => ?_
    cases db with
    | non =>
      refine .inl ⟨ry.non, ?_⟩
      have key : decide (x = V.non) = k := by
        cases da <;> cases e <;> first
          | (rw [rx.non]; rfl)
          | (rcases rx with h | ⟨_, _, _, rfl, _⟩
             · cases h <;> rfl
             · rfl)
      rw [key]
      exact q
    | bl b =>
      cases da with
      | bl a => cases e; exact .inr ⟨a, b, rx.bl, ry.bl, q⟩
      | _ => simp [cmp] at e
    | _ => cases da <;> simp [cmp] at e
  | notN =>
    refine op_via (op_notN.or op_notB) fun x y H Q ⟨G, da, db, k, s, rx, ry, e, q⟩ => ?_
    cases db with
    | non =>
      refine .inl ⟨ry.non, ?_⟩
      have key : (!decide (x = V.non)) = k := by
        cases da <;> cases e <;> first
          | (rw [rx.non]; rfl)
          | (rcases rx with h | ⟨_, _, _, rfl, _⟩
             · cases h <;> rfl
             · rfl)
      rw [key]
      exact q
    | bl b =>
      cases da with
      | bl a => cases e; exact .inr ⟨a, b, rx.bl, ry.bl, q⟩
      | _ => simp [cmp] at e
    | _ => cases da <;> simp [cmp] at e
  | isin =>
    refine op_via (op_in_seq.or ((op_inD hu2).or op_in_sign)) fun x y H Q ⟨G, da, db, k, s, rx, ry, e, q⟩ => ?_
    cases db with
    | str z =>
      cases da with
      | str w =>
        simp only [cmp] at e
        split at e
        · cases e
          exact .inr (.inr ⟨_, z, rx.str, ry.str, q⟩)
        · cases e
      | _ => cases e
    | lst ys =>
      have e' : (if (eqOk 60 da && eqOk 60 (.lst ys)) = true then Res.ok (ys.any fun y => eqD y da) else Res.bad) = Res.ok k := by cases da <;> exact e
      split at e'
      · rename_i h
        simp only [Bool.and_eq_true] at h
        cases e'
        have h3 : eqOks 59 ys = true := h.2
        refine .inr (.inl ⟨_, toPs ys, rx.dp s h.1, ry.dp s h.2, shaped_of h.1, shaped_of h.2, ?_⟩)
        rw [any_toP h.1 ys 59 h3]
        exact q
      · cases e'
    | tup ys =>
      have e' : (if (flatD da && ys.all flatD) = true then Res.ok (ys.any fun y => eqD y da) else Res.bad) = Res.ok k := by cases da <;> exact e
      split at e'
      · rename_i h
        simp only [Bool.and_eq_true] at h
        cases e'
        obtain ⟨p, vs, rfl, h1, r⟩ := ry.tup
        have rr := rx.rep h.1
        have fx : flatV x = true := by
          have f := h.1
          cases rr <;> first | rfl | (simp [flatD] at f)
        refine .inl ⟨p, vs, rfl, .inr (SqT.of (s _ _ h1)), fx, flat_all r h.2, ?_⟩
        rw [if_neg (by decide), inV_any rr h.1 r h.2]
        exact q
      · cases e'
    | _ => cases da <;> cases e
  | notin =>
    refine op_via (op_notIn_seq.or ((op_notInD hu2).or op_notIn_sign)) fun x y H Q ⟨G, da, db, k, s, rx, ry, e, q⟩ => ?_
    cases db with
    | str z =>
      cases da with
      | str w =>
        simp only [cmp] at e
        split at e
        · cases e
          exact .inr (.inr ⟨_, z, rx.str, ry.str, q⟩)
        · cases e
      | _ => cases e
    | lst ys =>
      have e' : (if (eqOk 60 da && eqOk 60 (.lst ys)) = true then Res.ok (!ys.any fun y => eqD y da) else Res.bad) = Res.ok k := by cases da <;> exact e
      split at e'
      · rename_i h
        simp only [Bool.and_eq_true] at h
        cases e'
        have h3 : eqOks 59 ys = true := h.2
        refine .inr (.inl ⟨_, toPs ys, rx.dp s h.1, ry.dp s h.2, shaped_of h.1, shaped_of h.2, ?_⟩)
        rw [any_toP h.1 ys 59 h3]
        exact q
      · cases e'
    | tup ys =>
      have e' : (if (flatD da && ys.all flatD) = true then Res.ok (!ys.any fun y => eqD y da) else Res.bad) = Res.ok k := by cases da <;> exact e
      split at e'
      · rename_i h
        simp only [Bool.and_eq_true] at h
        cases e'
        obtain ⟨p, vs, rfl, h1, r⟩ := ry.tup
        have rr := rx.rep h.1
        have fx : flatV x = true := by
          have f := h.1
          cases rr <;> first | rfl | (simp [flatD] at f)
        refine .inl ⟨p, vs, rfl, .inr (SqT.of (s _ _ h1)), fx, flat_all r h.2, ?_⟩
        rw [if_pos rfl, inV_any rr h.1 r h.2]
        exact q
      · cases e'
    | _ => cases da <;> cases e
/-- from a post about a comparison -/
theorem rc_of {P : Par} {W : WX} {σ : St} {G H : Hp} {o : OC} {da db : D} {x y : V} {Q : VK} (s : Same G H) (rx : RP P H G H x da) (ry : RP P H G H y db) (p : Post P W σ G H RB (cmp o da db) fun k H' => Q (.bl k) H') : RC P o x y H Q := by
  cases e : cmp o da db with
  | ok k => rw [e] at p; exact ⟨G, da, db, k, s, rx, ry, e, p k H G (Step.refl s) rfl⟩
  | err k fs =>
    exfalso
    cases o <;> cases da <;> cases db <;> simp [cmp] at e <;> (repeat' split at e) <;> simp_all
  | bad => rw [e] at p; exact False.elim p
theorem mark_of {op : OC} {e : Expr} (h : behindInMarks (cmpOf op) e = false) : behindInMarks (cmpOf op) e = false := h
theorem post_ofB {P : Par} {W : WX} {σ : St} {G H : Hp} {r : Res Bool} {Q : VK} (s : Same G H) (p : Post P W σ G H (RV P) (ofB r) Q) : Post P W σ G H RB r fun k H' => Q (.bl k) H' := by
  cases r with
  | ok b =>
    intro k H' G' st e
    have e : k = b := e
    subst e
    exact p (.bl k) H' G' st (.bl k)
  | err k fs => exact p
  | bad => exact p
theorem s_cmp {o : OC} (hu : X.A.units + 66 < cLine) (ha : SP' X T ca xa cx G0 H0 W a fa) (hb : SP' X T ca xa cx G0 H0 W b fb) (hm : behindInMarks (cmpOf o) b = false) :
    SE X T ca xa cx G0 H0 W (.Compare a [cmpOf o] [b] pos) fun env => (fa env).bind fun x => (fb env).bind fun y => ofB (cmp o x y) :=
  (pe_cmpR (op_cmp hu o) ha hb hm).imp fun σ H Q ⟨G, env, rel, p⟩ => ⟨G, env, rel, Post.bind anti_RV p fun da x H1 G1 s1 r1 q1 => ⟨G1, env, rel.step s1, Post.bind anti_RV q1 fun db y H2 G2 s2 r2 q2 =>
    rc_of s2.gh (r1.step s2) r2 (post_ofB s2.gh q2)⟩⟩
theorem t_cmp {o : OC} (hu : X.A.units + 66 < cLine) (ha : SP' X T ca xa cx G0 H0 W a fa) (hb : SP' X T ca xa cx G0 H0 W b fb) (hm : behindInMarks (cmpOf o) b = false) :
    ST X T ca xa cx G0 H0 W (.Compare a [cmpOf o] [b] pos) fun env => (fa env).bind fun x => (fb env).bind fun y => cmp o x y :=
  (pt_cmpR (op_cmp hu o) ha hb hm).imp fun σ H Q ⟨G, env, rel, p⟩ => ⟨G, env, rel, Post.bind anti_RB p fun da x H1 G1 s1 r1 q1 => ⟨G1, env, rel.step s1, Post.bind anti_RB q1 fun db y H2 G2 s2 r2 q2 =>
    rc_of s2.gh (r1.step s2) r2 (q2.imp fun k k' H' G' st e _ q => ⟨_, rfl, q⟩)⟩⟩
theorem s_ch2 {o o' : OC} (hu : X.A.units + 66 < cLine) (ha : SP' X T ca xa cx G0 H0 W a fa) (hb : SP' X T ca xa cx G0 H0 W b fb) (hc : SP' X T ca xa cx G0 H0 W c fc) (hm : lastMarks [cmpOf o, cmpOf o'] [b, c] = false) :
    SE X T ca xa cx G0 H0 W (.Compare a [cmpOf o, cmpOf o'] [b, c] pos) fun env => (fa env).bind fun x => (fb env).bind fun y => (cmp o x y).bind fun k => if k = true then (fc env).bind fun z => ofB (cmp o' y z) else .ok (.val (.bl false)) :=
  (pe_chain (op_cmp hu o) (op_cmp hu o') ha hb hc hm).imp fun σ H Q ⟨G, env, rel, p⟩ => ⟨G, env, rel, Post.bind anti_RV p fun da x H1 G1 s1 r1 q1 => ⟨G1, env, rel.step s1, Post.bind anti_RV q1 fun db y H2 G2 s2 r2 q2 =>
    rc_of s2.gh (r1.step s2) r2 (Post.bind (R1 := RB) anti_RV q2 fun k k' H3 G3 s3 e q3 => by
      have e : k' = k := e
      subst e
      refine ⟨_, rfl, ?_⟩
      cases k' with
      | true => exact ⟨G3, env, ((rel.step s1).step s2).step s3, Post.bind anti_RV q3 fun dc z H4 G4 s4 r4 q4 => rc_of s4.gh ((r2.step s3).step s4) r4 (post_ofB s4.gh q4)⟩
      | false => exact post_val s3.gh q3 (.bl false))⟩⟩
theorem t_ch2 {o o' : OC} (hu : X.A.units + 66 < cLine) (ha : SP' X T ca xa cx G0 H0 W a fa) (hb : SP' X T ca xa cx G0 H0 W b fb) (hc : SP' X T ca xa cx G0 H0 W c fc) (hm : lastMarks [cmpOf o, cmpOf o'] [b, c] = false) :
    ST X T ca xa cx G0 H0 W (.Compare a [cmpOf o, cmpOf o'] [b, c] pos) fun env => (fa env).bind fun x => (fb env).bind fun y => (cmp o x y).bind fun k => if k = true then (fc env).bind fun z => cmp o' y z else .ok false :=
  (pt_chain (op_cmp hu o) (op_cmp hu o') ha hb hc hm).imp fun σ H Q ⟨G, env, rel, p⟩ => ⟨G, env, rel, Post.bind anti_RB p fun da x H1 G1 s1 r1 q1 => ⟨G1, env, rel.step s1, Post.bind anti_RB q1 fun db y H2 G2 s2 r2 q2 =>
    rc_of s2.gh (r1.step s2) r2 (Post.bind (R1 := RB) anti_RB q2 fun k k' H3 G3 s3 e q3 => by
      have e : k' = k := e
      subst e
      refine ⟨_, rfl, ?_⟩
      cases k' with
      | true => exact ⟨G3, env, ((rel.step s1).step s2).step s3, Post.bind anti_RB q3 fun dc z H4 G4 s4 r4 q4 => rc_of s4.gh ((r2.step s3).step s4) r4 (q4.imp fun k k' H' G' st e _ q => ⟨_, rfl, q⟩)⟩
      | false => exact ⟨false, rfl, q3 false H3 G3 (Step.refl s3.gh) rfl⟩)⟩⟩
/-- a op1 b op2 c op3 d -/
def tChain3 (r r' r'' : R2) (ta tb tc td : TE) : TE := fun σ H Q => ta σ H fun x H1 => tb σ H1 fun y H2 => r x y H2 fun z H3 => ∃ k, z = .bl k ∧
  (if k = true then tc σ H3 fun w H4 => r' y w H4 fun z' H5 => ∃ k', z' = .bl k' ∧ (if k' = true then td σ H5 fun u H6 => r'' w u H6 Q else Q (.bl false) H5) else Q (.bl false) H3)
theorem pe_chain3 {op op' op'' : CmpOp} {r r' r'' : R2} {ta tb tc td : TE} (ho : OpR X (compareOp op) r) (ho' : OpR X (compareOp op') r') (ho'' : OpR X (compareOp op'') r'') (ha : PE X a ta) (hb : PE X b tb) (hc : PE X c tc) (hd : PE X d td)
    (hm : lastMarks [op, op', op''] [b, c, d] = false) : PE X (.Compare a [op, op', op''] [b, c, d] pos) (tChain3 r r' r'' ta tb tc td) := by
  refine ⟨fun pins s σ H Q I h => Compare_chain (thn (ha.run pins s σ H _ I h) fun v s1 h1 => ?_) hm⟩
  obtain ⟨x, H1, I1, r1, q1⟩ := h1
  refine chain_link (thn (hb.run pins s1 σ H1 _ I1 q1) fun u s2 h2 => ?_)
  obtain ⟨y, H2, I2, r2, q2⟩ := h2
  refine thn (ho pins s2 σ H2 x y v u _ I2 r1 r2 q2) fun e s3 h3 => ?_
  obtain ⟨z, H3, I3, r3, k, ez, q3⟩ := h3
  subst ez
  cases r3
  refine wpAny_truthy_bool ?_
  cases k with
  | false => exact ite_ff ⟨.bl false, H3, I3, rfl, q3⟩
  | true =>
    refine ite_tt (chain_link (thn (hc.run pins s3 σ H3 _ I3 q3) fun w s4 h4 => ?_))
    obtain ⟨y', H4, I4, r4, q4⟩ := h4
    refine thn (ho' pins s4 σ H4 y y' u w _ I4 r2 r4 q4) fun e' s5 h5 => ?_
    obtain ⟨z', H5, I5, r5, k', ez', q5⟩ := h5
    subst ez'
    cases r5
    refine wpAny_truthy_bool ?_
    cases k' with
    | false => exact ite_ff ⟨.bl false, H5, I5, rfl, q5⟩
    | true =>
      refine ite_tt (chain_last (thn (hd.run pins s5 σ H5 _ I5 q5) fun w' s6 h6 => ?_))
      obtain ⟨z6, H6, I6, r6, q6⟩ := h6
      exact ho'' pins s6 σ H6 y' z6 w w' Q I6 r4 r6 q6
theorem pt_chain3 {op op' op'' : CmpOp} {r r' r'' : R2} {ta tb tc td : TE} (ho : OpR X (compareOp op) r) (ho' : OpR X (compareOp op') r') (ho'' : OpR X (compareOp op'') r'') (ha : PE X a ta) (hb : PE X b tb) (hc : PE X c tc) (hd : PE X d td)
    (hm : lastMarks [op, op', op''] [b, c, d] = false) : PT X (.Compare a [op, op', op''] [b, c, d] pos) (tTest (tChain3 r r' r'' ta tb tc td)) := by
  refine ⟨fun pins s σ H Q I h => isTrue_chain (thn (ha.run pins s σ H _ I h) fun v s1 h1 => ?_) hm⟩
  obtain ⟨x, H1, I1, r1, q1⟩ := h1
  refine test_link (thn (hb.run pins s1 σ H1 _ I1 q1) fun u s2 h2 => ?_)
  obtain ⟨y, H2, I2, r2, q2⟩ := h2
  refine thn (ho pins s2 σ H2 x y v u _ I2 r1 r2 q2) fun e s3 h3 => ?_
  obtain ⟨z, H3, I3, r3, k, ez, q3⟩ := h3
  subst ez
  cases r3
  refine wpAny_truthy_bool ?_
  cases k with
  | false =>
    obtain ⟨kk, ek, qk⟩ := q3
    cases ek
    exact ite_ff ⟨H3, I3, qk⟩
  | true =>
    refine ite_tt (test_link (thn (hc.run pins s3 σ H3 _ I3 q3) fun w s4 h4 => ?_))
    obtain ⟨y', H4, I4, r4, q4⟩ := h4
    refine thn (ho' pins s4 σ H4 y y' u w _ I4 r2 r4 q4) fun e' s5 h5 => ?_
    obtain ⟨z', H5, I5, r5, k', ez', q5⟩ := h5
    subst ez'
    cases r5
    refine wpAny_truthy_bool ?_
    cases k' with
    | false =>
      obtain ⟨kk, ek, qk⟩ := q5
      cases ek
      exact ite_ff ⟨H5, I5, qk⟩
    | true =>
      refine ite_tt (test_last (thn (hd.run pins s5 σ H5 _ I5 q5) fun w' s6 h6 => ?_))
      obtain ⟨z6, H6, I6, r6, q6⟩ := h6
      refine thn (ho'' pins s6 σ H6 y' z6 w w' _ I6 r4 r6 q6) fun e6 s7 h7 => ?_
      obtain ⟨z7, H7, I7, r7, k7, e7, q7⟩ := h7
      subst e7
      cases r7
      exact wpAny_truthy_bool ⟨H7, I7, q7⟩
theorem s_ch3 {o o' o'' : OC} (hu : X.A.units + 66 < cLine) (ha : SP' X T ca xa cx G0 H0 W a fa) (hb : SP' X T ca xa cx G0 H0 W b fb) (hc : SP' X T ca xa cx G0 H0 W c fc) (hd : SP' X T ca xa cx G0 H0 W d fd) (hm : lastMarks [cmpOf o, cmpOf o', cmpOf o''] [b, c, d] = false) :
    SE X T ca xa cx G0 H0 W (.Compare a [cmpOf o, cmpOf o', cmpOf o''] [b, c, d] pos) fun env => (fa env).bind fun x => (fb env).bind fun y => (cmp o x y).bind fun k => if k = true then (fc env).bind fun z => (cmp o' y z).bind fun l =>
      if l = true then (fd env).bind fun w => ofB (cmp o'' z w) else .ok (.val (.bl false)) else .ok (.val (.bl false)) :=
  (pe_chain3 (op_cmp hu o) (op_cmp hu o') (op_cmp hu o'') ha hb hc hd hm).imp fun σ H Q ⟨G, env, rel, p⟩ => ⟨G, env, rel, Post.bind anti_RV p fun da x H1 G1 s1 r1 q1 => ⟨G1, env, rel.step s1, Post.bind anti_RV q1 fun db y H2 G2 s2 r2 q2 =>
    rc_of s2.gh (r1.step s2) r2 (Post.bind (R1 := RB) anti_RV q2 fun k k' H3 G3 s3 e q3 => by
      have e : k' = k := e
      subst e
      refine ⟨_, rfl, ?_⟩
      cases k' with
      | true =>
        refine ⟨G3, env, ((rel.step s1).step s2).step s3, Post.bind anti_RV q3 fun dc z H4 G4 s4 r4 q4 => rc_of s4.gh ((r2.step s3).step s4) r4 (Post.bind (R1 := RB) anti_RV q4 fun l l' H5 G5 s5 e5 q5 => ?_)⟩
        have e5 : l' = l := e5
        subst e5
        refine ⟨_, rfl, ?_⟩
        cases l' with
        | true => exact ⟨G5, env, ((((rel.step s1).step s2).step s3).step s4).step s5, Post.bind anti_RV q5 fun dd w H6 G6 s6 r6 q6 => rc_of s6.gh ((r4.step s5).step s6) r6 (post_ofB s6.gh q6)⟩
        | false => exact post_val s5.gh q5 (.bl false)
      | false => exact post_val s3.gh q3 (.bl false))⟩⟩
theorem t_ch3 {o o' o'' : OC} (hu : X.A.units + 66 < cLine) (ha : SP' X T ca xa cx G0 H0 W a fa) (hb : SP' X T ca xa cx G0 H0 W b fb) (hc : SP' X T ca xa cx G0 H0 W c fc) (hd : SP' X T ca xa cx G0 H0 W d fd) (hm : lastMarks [cmpOf o, cmpOf o', cmpOf o''] [b, c, d] = false) :
    ST X T ca xa cx G0 H0 W (.Compare a [cmpOf o, cmpOf o', cmpOf o''] [b, c, d] pos) fun env => (fa env).bind fun x => (fb env).bind fun y => (cmp o x y).bind fun k => if k = true then (fc env).bind fun z => (cmp o' y z).bind fun l =>
      if l = true then (fd env).bind fun w => cmp o'' z w else .ok false else .ok false :=
  (pt_chain3 (op_cmp hu o) (op_cmp hu o') (op_cmp hu o'') ha hb hc hd hm).imp fun σ H Q ⟨G, env, rel, p⟩ => ⟨G, env, rel, Post.bind anti_RB p fun da x H1 G1 s1 r1 q1 => ⟨G1, env, rel.step s1, Post.bind anti_RB q1 fun db y H2 G2 s2 r2 q2 =>
    rc_of s2.gh (r1.step s2) r2 (Post.bind (R1 := RB) anti_RB q2 fun k k' H3 G3 s3 e q3 => by
      have e : k' = k := e
      subst e
      refine ⟨_, rfl, ?_⟩
      cases k' with
      | true =>
        refine ⟨G3, env, ((rel.step s1).step s2).step s3, Post.bind anti_RB q3 fun dc z H4 G4 s4 r4 q4 => rc_of s4.gh ((r2.step s3).step s4) r4 (Post.bind (R1 := RB) anti_RB q4 fun l l' H5 G5 s5 e5 q5 => ?_)⟩
        have e5 : l' = l := e5
        subst e5
        refine ⟨_, rfl, ?_⟩
        cases l' with
        | true => exact ⟨G5, env, ((((rel.step s1).step s2).step s3).step s4).step s5, Post.bind anti_RB q5 fun dd w H6 G6 s6 r6 q6 => rc_of s6.gh ((r4.step s5).step s6) r6 (q6.imp fun k k' H' G' st e _ q => ⟨_, rfl, q⟩)⟩
        | false => exact ⟨false, rfl, q5 false H5 G5 (Step.refl s5.gh) rfl⟩
      | false => exact ⟨false, rfl, q3 false H3 G3 (Step.refl s3.gh) rfl⟩)⟩⟩

/-! ### tests -/
theorem tru_of {P : Par} {H0 G H : Hp} {v : V} {d : D} {k : Bool} (s : Same G H) (r : RP P H0 G H v d) (e : truth d = .ok k) : TruV P.K v H k := by
  cases d with
  | non => rw [r.non]; cases e; rfl
  | bl b => rw [r.bl]; cases e; rfl
  | int i => rw [r.int]; cases e; rfl
  | str x =>
    rw [r.str]
    simp only [truth] at e
    split at e
    · rename_i h
      cases e
      exact ⟨by rw [sizeLine_eq]; exact h, rfl⟩
    · cases e
  | lst ds =>
    obtain ⟨p, vs, rfl, h, rr⟩ := r.lst s
    cases e
    refine .inl ⟨vs, h, ?_⟩
    have := rr.length
    cases vs <;> cases ds <;> simp_all
  | tup ds =>
    obtain ⟨p, vs, rfl, h, rr⟩ := r.tup
    cases e
    refine .inr (.inl ⟨vs, SqT.of (s _ _ h), ?_⟩)
    have := rr.length
    cases vs <;> cases ds <;> simp_all
  | ins _ _ => cases e
theorem s_not (ha : SE X T ca xa cx G0 H0 W a f) : SE X T ca xa cx G0 H0 W (.UnaryOp .Not a pos) fun env => (f env).bind fun x => (truthV x).bind fun b => .ok (.val (.bl (!b))) :=
  (pe_notT ha).imp fun σ H Q ⟨G, env, rel, p⟩ => ⟨G, env, rel, Post.bind anti_RV p fun r x H1 G1 s1 r1 q1 => by
    cases r with
    | own ds => exact False.elim q1
    | val d =>
      cases e : truth d with
      | ok k =>
        simp only [truthV, e, Res.bind_ok] at q1
        exact ⟨k, tru_of (H0 := H0) s1.gh (.inl r1) e, post_val s1.gh q1 (.bl _)⟩
      | err c fs =>
        cases d <;> simp [truth] at e
        split at e <;> cases e
      | bad =>
        simp only [truthV, e] at q1
        exact False.elim q1⟩
theorem t_val (ha : SP' X T ca xa cx G0 H0 W a fa) (he : ∀ whole, isTrue a X.env whole = (do let v ← whole; standAt a.pos; holding [v] (truthy v))) : ST X T ca xa cx G0 H0 W a fun env => (fa env).bind truth :=
  (pt_truth ha he).imp fun σ H Q ⟨G, env, rel, p⟩ => ⟨G, env, rel, Post.bind anti_RB p fun da x H1 G1 s1 r1 q1 => by
    cases e : truth da with
    | ok k => rw [e] at q1; exact ⟨k, tru_of s1.gh r1 e, q1 k H1 G1 (Step.refl s1.gh) rfl⟩
    | err k fs =>
      exfalso
      cases da <;> simp [truth] at e
      split at e <;> cases e
    | bad => rw [e] at q1; exact False.elim q1⟩
theorem t_not {f : Env → Res Bool} (ha : ST X T ca xa cx G0 H0 W a f) : ST X T ca xa cx G0 H0 W (.UnaryOp .Not a pos) fun env => (f env).bind fun k => .ok (!k) :=
  (pt_not ha).imp fun σ H Q ⟨G, env, rel, p⟩ => ⟨G, env, rel, Post.bind anti_RB p fun k k' H1 G1 s1 r1 q1 => by
    have e : k' = k := r1
    subst e
    exact q1 _ H1 G1 (Step.refl s1.gh) rfl⟩
/-- what follows in a chain of and, or -/
abbrev SW (X : Cx) (T : Tab) (ca xa : Nat → Addr) (cx : Hand) (G0 H0 : Hp) (W : WX) (e : Expr) (f : Env → Res Bool) : Prop := L2.PW X e (tR (PX X T ca xa) cx G0 H0 W RB f)
theorem w_and1 {f : Env → Res Bool} (ha : ST X T ca xa cx G0 H0 W a f) : SW X T ca xa cx G0 H0 W (.BoolOp .And [a] pos) f := pw_and1 ha
theorem w_or1 {f : Env → Res Bool} (ha : ST X T ca xa cx G0 H0 W a f) : SW X T ca xa cx G0 H0 W (.BoolOp .Or [a] pos) f := pw_or1 ha
theorem w_and {rest : List Expr} {f g : Env → Res Bool} (ha : ST X T ca xa cx G0 H0 W a f) (hb : SW X T ca xa cx G0 H0 W (.BoolOp .And (b :: rest) pos) g) :
    SW X T ca xa cx G0 H0 W (.BoolOp .And (a :: b :: rest) pos) fun env => (f env).bind fun k => if k = true then g env else .ok false :=
  (pw_and ha hb).imp fun σ H Q ⟨G, env, rel, p⟩ => ⟨G, env, rel, Post.bind anti_RB p fun k k' H1 G1 s1 r1 q1 => by
    have e : k' = k := r1
    subst e
    cases k' with
    | true => exact ⟨G1, env, rel.step s1, q1⟩
    | false => exact q1 _ H1 G1 (Step.refl s1.gh) rfl⟩
theorem w_or {rest : List Expr} {f g : Env → Res Bool} (ha : ST X T ca xa cx G0 H0 W a f) (hb : SW X T ca xa cx G0 H0 W (.BoolOp .Or (b :: rest) pos) g) :
    SW X T ca xa cx G0 H0 W (.BoolOp .Or (a :: b :: rest) pos) fun env => (f env).bind fun k => if k = true then .ok true else g env :=
  (pw_or ha hb).imp fun σ H Q ⟨G, env, rel, p⟩ => ⟨G, env, rel, Post.bind anti_RB p fun k k' H1 G1 s1 r1 q1 => by
    have e : k' = k := r1
    subst e
    cases k' with
    | false => exact ⟨G1, env, rel.step s1, q1⟩
    | true => exact q1 _ H1 G1 (Step.refl s1.gh) rfl⟩
/-! ### and, or, not, - as values -/
theorem vbl {P : Par} {H0 G H : Hp} {v : V} {r : Vl} {k : Bool} (h : RV P H0 G H v r) (e : asBool r = .ok k) : v = .bl k := by
  cases r with
  | val d =>
    cases d with
    | bl b =>
      cases e
      have h : Rep P G v (.bl _) := h
      cases h; rfl
    | _ => cases e
  | own ds => cases e
theorem vint {P : Par} {H0 G H : Hp} {v : V} {r : Vl} {k : Int} (h : RV P H0 G H v r) (e : asInt r = .ok k) : v = .int k := by
  cases r with
  | val d =>
    cases d with
    | int b =>
      cases e
      have h : Rep P G v (.int _) := h
      cases h; rfl
    | _ => cases e
  | own ds => cases e
theorem no_err_bool {r : Vl} {k : Nat} {fs : List D} (e : asBool r = .err k fs) : False := by
  cases r with
  | val d => cases d <;> cases e
  | own ds => cases e
theorem no_err_int {r : Vl} {k : Nat} {fs : List D} (e : asInt r = .err k fs) : False := by
  cases r with
  | val d => cases d <;> cases e
  | own ds => cases e
theorem post_bool {α β : Type} {P : Par} {W : WX} {σ : St} {G H H0 : Hp} {v : V} {r : Vl} {R : Hp → Hp → Hp → β → α → Prop} {f : Bool → Res α} {Q : β → Hp → Prop} (h : RV P H0 G H v r) (p : Post P W σ G H R ((asBool r).bind f) Q) : ∃ k, v = .bl k ∧ Post P W σ G H R (f k) Q := by
  cases e : asBool r with
  | ok k => rw [e] at p; exact ⟨k, vbl h e, p⟩
  | err k fs => exact (no_err_bool e).elim
  | bad => rw [e] at p; exact False.elim p
theorem post_int {α β : Type} {P : Par} {W : WX} {σ : St} {G H H0 : Hp} {v : V} {r : Vl} {R : Hp → Hp → Hp → β → α → Prop} {f : Int → Res α} {Q : β → Hp → Prop} (h : RV P H0 G H v r) (p : Post P W σ G H R ((asInt r).bind f) Q) : ∃ k, v = .int k ∧ Post P W σ G H R (f k) Q := by
  cases e : asInt r with
  | ok k => rw [e] at p; exact ⟨k, vint h e, p⟩
  | err k fs => exact (no_err_int e).elim
  | bad => rw [e] at p; exact False.elim p
section
variable {f g : Env → Res Vl}
theorem s_one {o} (h : SE X T ca xa cx G0 H0 W a f) : SE X T ca xa cx G0 H0 W (.BoolOp o [a] pos) f := pe_one h
theorem s_and {rest : List Expr} (ha : SE X T ca xa cx G0 H0 W a f) (hb : SE X T ca xa cx G0 H0 W (.BoolOp .And (b :: rest) pos) g) :
    SE X T ca xa cx G0 H0 W (.BoolOp .And (a :: b :: rest) pos) fun env => (f env).bind fun x => (asBool x).bind fun k => if k = true then g env else .ok (.val (.bl false)) :=
  (pe_and ha hb).imp fun σ H Q ⟨G, env, rel, p⟩ => ⟨G, env, rel, Post.bind anti_RV p fun r x H1 G1 s1 r1 q1 => by
    obtain ⟨k, e, q⟩ := post_bool r1 q1
    refine ⟨k, e, ?_⟩
    cases k with
    | true => exact ⟨G1, env, rel.step s1, q⟩
    | false => exact post_val s1.gh q (.bl false)⟩
theorem s_or {rest : List Expr} (ha : SE X T ca xa cx G0 H0 W a f) (hb : SE X T ca xa cx G0 H0 W (.BoolOp .Or (b :: rest) pos) g) :
    SE X T ca xa cx G0 H0 W (.BoolOp .Or (a :: b :: rest) pos) fun env => (f env).bind fun x => (asBool x).bind fun k => if k = true then .ok (.val (.bl true)) else g env :=
  (pe_or ha hb).imp fun σ H Q ⟨G, env, rel, p⟩ => ⟨G, env, rel, Post.bind anti_RV p fun r x H1 G1 s1 r1 q1 => by
    obtain ⟨k, e, q⟩ := post_bool r1 q1
    refine ⟨k, e, ?_⟩
    cases k with
    | false => exact ⟨G1, env, rel.step s1, q⟩
    | true => exact post_val s1.gh q (.bl true)⟩
theorem s_neg (ha : SE X T ca xa cx G0 H0 W a f) : SE X T ca xa cx G0 H0 W (.UnaryOp .USub a pos) fun env => (f env).bind fun x => (neg x.d).bind fun d => .ok (.val d) :=
  (pe_un un_neg ha).imp fun σ H Q ⟨G, env, rel, p⟩ => ⟨G, env, rel, Post.bind anti_RV p fun r x H1 G1 s1 r1 q1 => by
    cases r with
    | val d =>
      cases d with
      | int i =>
        have h : Rep (PX X T ca xa) G1 x (.int i) := r1
        cases h
        exact ⟨i, rfl, post_val s1.gh q1 (.int _)⟩
      | _ => exact False.elim q1
    | own ds => exact False.elim q1⟩
end
end
end PL

set_option linter.all false
set_option Elab.async false
set_option maxRecDepth 100000
set_option maxHeartbeats 1000000
/-! Soundness, part 4: argument lists, displays, items, slices, built-ins, methods of texts. -/
namespace PL
open PySem PySem.Spec PyProof.Rows L2

/-! ### of the text alone -/
def noStar : Expr → Bool
  | .Starred _ _ => false
  | _ => true
def noSlice : Expr → Bool
  | .Slice _ _ _ _ => false
  | _ => true
def noSet : Expr → Bool
  | .Set _ _ _ => false
  | _ => true
/-- not a call without arguments (super()) -/
def noSup : Expr → Bool
  | .Call _ (_ :: _) _ _ => true
  | .Call _ [] (_ :: _) _ => true
  | .Call (.Name x _) [] [] _ => x != "super"
  | _ => true
/-- whose truth is that of its value -/
def plainT : Expr → Bool
  | .UnaryOp .Not _ _ => false
  | .BoolOp _ _ _ => false
  | .IfExp _ _ _ _ => false
  | .Compare _ _ _ _ => false
  | _ => true
theorem star_cons {e : Expr} {es : List Expr} {env : PySem.Env} (h : noStar e = true) : starEach (e :: es) env = (false, eval e env) :: starEach es env := by
  cases e <;> first | rfl | (simp [noStar] at h)
theorem star_any {pos : Pos} {env : PySem.Env} : ∀ {es : List Expr}, es.all noStar = true → (backTo pos (starEach es env)).any (·.1) = false
  | [], _ => rfl
  | e :: es, h => by
    simp only [List.all_cons, Bool.and_eq_true] at h
    rw [star_cons h.1]
    have := star_any (pos := pos) (env := env) h.2
    simp only [backTo, List.map_cons, List.any_cons] at this ⊢
    rw [this]
    rfl
theorem ix_plain {b : Expr} (h : noSlice b = true) : PlainIx b := fun o i => by
  cases b <;> first | rfl | (simp [noSlice] at h)
theorem base_ok {o : Expr} {n : Str} {env : PySem.Env} {w : Sem Value} (h : noSup o = true) : attributeBase o n env w = w := by
  cases o with
  | Call f as ks p =>
    cases as with
    | cons _ _ => cases f <;> rfl
    | nil =>
      cases ks with
      | cons _ _ => cases f <;> rfl
      | nil =>
        cases f with
        | Name x q =>
          have q : (x != ("super" : Str)) = true := h
          unfold attributeBase
          simp only [q, Bool.true_or, if_true]
        | _ => rfl
  | _ => rfl
theorem truth_ok {e : Expr} {env : PySem.Env} (h : plainT e = true) : ∀ whole, isTrue e env whole = (do let v ← whole; standAt e.pos; holding [v] (truthy v)) := fun whole => by
  cases e with
  | UnaryOp o _ _ => cases o <;> first | rfl | (simp [plainT] at h)
  | _ => first | rfl | (simp [plainT] at h)
theorem folded_ok {e : Expr} {env : PySem.Env} (h : noSet e = true) : ∀ x, foldedSetIterable e env x = pure x := fun x => by
  cases e <;> first | rfl | (simp [noSet] at h)
theorem mark_ok {op : CmpOp} {e : Expr} (h : noSet e = true) : behindInMarks op e = false := by
  cases e <;> first | rfl | (simp [noSet] at h)

section
variable {X : Cx} {T : Tab} {ca xa : Nat → Addr} {cx : Hand} {G0 H0 : Hp} {W : WX} {a b c d : Expr} {fa fb fc fd : Env → Res D} {f g : Env → Res Vl} {pos : Pos}

/-! ### lists of values -/
theorem s_nil : SA X T ca xa cx G0 H0 W [] fun _ => .ok [] :=
  pa_nil.imp fun σ H Q ⟨G, env, rel, p⟩ => p [] H G (Step.refl rel.gh) .nil
theorem s_cons {es : List Expr} {h : Env → Res (List D)} (ha : SE X T ca xa cx G0 H0 W a f) (hr : SA X T ca xa cx G0 H0 W es h) (hs : noStar a = true) :
    SA X T ca xa cx G0 H0 W (a :: es) fun env => (f env).bind fun x => (h env).bind fun ds => .ok (x.d :: ds) :=
  (pa_cons ha hr (star_cons hs)).imp fun σ H Q ⟨G, env, rel, p⟩ => by
    refine ⟨G, env, rel, ?_⟩
    cases e : f env with
    | err k fs => simp only [e, Res.bind_err] at p; exact p
    | bad => simp only [e, Res.bind_bad] at p; exact p
    | ok r =>
      simp only [e, Res.bind_ok] at p
      intro x H1 G1 s1 r1
      obtain ⟨G2, s2, gg, r2⟩ := RV.still r1 s1
      refine ⟨G2, env, rel.step s2, Post.bind anti_RDs (Post.after anti_RDs s2 p) fun ds xs H3 G3 s3 r3 q3 => ?_⟩
      exact q3 (x :: xs) H3 G3 (Step.refl s3.gh) (.cons (r2.mono s3.gg) r3)
/-- arguments: some are only looked at -/
inductive RAL (P : Par) (G H : Hp) : List Bool → List V → List D → Prop
  | nil : RAL P G H [] [] []
  | look {ms : List Bool} {v : V} {vs : List V} {d : D} {ds : List D} (h : RP P H G H v d) (r : RAL P G H ms vs ds) : RAL P G H (true :: ms) (v :: vs) (d :: ds)
  | stay {ms : List Bool} {v : V} {vs : List V} {d : D} {ds : List D} (h : Rep P G v d) (r : RAL P G H ms vs ds) : RAL P G H (false :: ms) (v :: vs) (d :: ds)
theorem RAL.step {P : Par} {G H G' H' : Hp} (s : Step G H G' H') : ∀ {ms : List Bool} {vs : List V} {ds : List D}, RAL P G H ms vs ds → RAL P G' H' ms vs ds
  | _, _, _, .nil => .nil
  | _, _, _, .look h r => .look (h.step s) (RAL.step s r)
  | _, _, _, .stay h r => .stay (h.mono s.gg) (RAL.step s r)
theorem RAL.len {P : Par} {G H : Hp} : ∀ {ms : List Bool} {vs : List V} {ds : List D}, RAL P G H ms vs ds → vs.length = ms.length ∧ ds.length = ms.length
  | _, _, _, .nil => ⟨rfl, rfl⟩
  | _, _, _, .look _ r => ⟨congrArg (· + 1) r.len.1, congrArg (· + 1) r.len.2⟩
  | _, _, _, .stay _ r => ⟨congrArg (· + 1) r.len.1, congrArg (· + 1) r.len.2⟩
def RA (P : Par) (ms : List Bool) (_H G' H' : Hp) (vs : List V) (ds : List D) : Prop := RAL P G' H' ms vs ds
theorem anti_RA {P : Par} {ms : List Bool} : Anti (RA P ms) := fun _ _ _ _ _ _ _ h => h
abbrev SAR (X : Cx) (T : Tab) (ca xa : Nat → Addr) (cx : Hand) (G0 H0 : Hp) (W : WX) (ms : List Bool) (e : List Expr) (f : Env → Res (List D)) : Prop := PA X e (tR (PX X T ca xa) cx G0 H0 W (RA (PX X T ca xa) ms) f)
theorem r_nil : SAR X T ca xa cx G0 H0 W [] [] fun _ => .ok [] :=
  pa_nil.imp fun σ H Q ⟨G, env, rel, p⟩ => p [] H G (Step.refl rel.gh) .nil
theorem r_look {es : List Expr} {ms : List Bool} {h : Env → Res (List D)} (ha : SP' X T ca xa cx G0 H0 W a fa) (hr : SAR X T ca xa cx G0 H0 W ms es h) (hs : noStar a = true) :
    SAR X T ca xa cx G0 H0 W (true :: ms) (a :: es) fun env => (fa env).bind fun x => (h env).bind fun ds => .ok (x :: ds) :=
  (pa_cons ha hr (star_cons hs)).imp fun σ H Q ⟨G, env, rel, p⟩ => ⟨G, env, rel, Post.bind anti_RA p fun da x H1 G1 s1 r1 q1 => ⟨G1, env, rel.step s1, Post.bind anti_RA q1 fun ds xs H3 G3 s3 r3 q3 =>
    q3 (x :: xs) H3 G3 (Step.refl s3.gh) (.look (r1.step s3) r3)⟩⟩
theorem r_stay {es : List Expr} {ms : List Bool} {h : Env → Res (List D)} (ha : SD X T ca xa cx G0 H0 W a fa) (hr : SAR X T ca xa cx G0 H0 W ms es h) (hs : noStar a = true) :
    SAR X T ca xa cx G0 H0 W (false :: ms) (a :: es) fun env => (fa env).bind fun x => (h env).bind fun ds => .ok (x :: ds) :=
  (pa_cons ha hr (star_cons hs)).imp fun σ H Q ⟨G, env, rel, p⟩ => ⟨G, env, rel, Post.bind anti_RA p fun da x H1 G1 s1 r1 q1 => ⟨G1, env, rel.step s1, Post.bind anti_RA q1 fun ds xs H3 G3 s3 r3 q3 =>
    q3 (x :: xs) H3 G3 (Step.refl s3.gh) (.stay (Rep.mono s3.gg r1) r3)⟩⟩

/-! ### displays -/
theorem s_tup {es : List Expr} {k : Nat} {h : Env → Res (List D)} (hr : SA X T ca xa cx G0 H0 W es h) : SE X T ca xa cx G0 H0 W (.Tuple es k pos) fun env => (h env).bind fun ds => if ds.length ≤ SL then .ok (.val (.tup ds)) else .bad :=
  (pe_tup hr).imp fun σ H Q ⟨G, env, rel, p⟩ => ⟨G, env, rel, Post.bind anti_RV p fun ds xs H1 G1 s1 r1 q1 => by
    have r1 : Reps _ G1 xs ds := r1
    by_cases z : ds.length ≤ SL
    · rw [if_pos z] at q1
      exact ⟨by rw [sizeLine_eq, r1.length]; exact z, fun p hp => post_tup s1.gh q1 r1 hp⟩
    · rw [if_neg z] at q1; exact False.elim q1⟩
theorem s_lst {es : List Expr} {h : Env → Res (List D)} (hr : SA X T ca xa cx G0 H0 W es h) : SE X T ca xa cx G0 H0 W (.List es pos) fun env => (h env).bind fun ds => if ds.length ≤ SL then .ok (.own ds) else .bad :=
  (pe_lst hr).imp fun σ H Q ⟨G, env, rel, p⟩ => ⟨G, env, rel, Post.bind anti_RV p fun ds xs H1 G1 s1 r1 q1 => by
    have r1 : Reps _ G1 xs ds := r1
    by_cases z : ds.length ≤ SL
    · rw [if_pos z] at q1
      exact ⟨by rw [sizeLine_eq, r1.length]; exact z, fun p hp => post_own s1.gh q1 r1 hp⟩
    · rw [if_neg z] at q1; exact False.elim q1⟩

/-! ### items, slices -/
theorem ix_get {P : Par} {G : Hp} {vs : List V} {ds : List D} {i : Int} {d : D} (r : Reps P G vs ds) (h : (ixNat ds.length i).bind (ds[·]?) = some d) : ∃ v, atI vs i = some v ∧ Rep P G v d := by
  cases e : ixNat ds.length i with
  | none => rw [e] at h; cases h
  | some j =>
    rw [e] at h
    obtain ⟨v, h1, h2⟩ := r.get (i := j) (d := d) h
    refine ⟨v, ?_, h2⟩
    unfold atI
    rw [r.length, show ixN ds.length i = some j from e]
    exact h1
theorem s_ix (ha : SP' X T ca xa cx G0 H0 W a fa) (hb : SP' X T ca xa cx G0 H0 W b fb) (hs : noSlice b = true) : SE X T ca xa cx G0 H0 W (.Subscript a b pos) fun env => (fa env).bind fun x => (fb env).bind fun y => (index x y).bind fun d => .ok (.val d) :=
  (pe_ix ix_seq ha hb (ix_plain hs)).imp fun σ H Q ⟨G, env, rel, p⟩ => ⟨G, env, rel, Post.bind anti_RV p fun da x H1 G1 s1 r1 q1 => ⟨G1, env, rel.step s1, Post.bind anti_RV q1 fun db y H2 G2 s2 r2 q2 => by
    have r1 := RP.step r1 s2
    cases db with
    | int i =>
      have ey := RP.int r2
      cases da with
      | lst ds =>
        obtain ⟨p, vs, rfl, h1, rr⟩ := RP.lst s2.gh r1
        simp only [index] at q2
        split at q2
        · rename_i d e
          obtain ⟨v, h2, h3⟩ := ix_get rr e
          exact .inl ⟨p, vs, i, v, rfl, ey, h1, h2, post_val s2.gh q2 h3⟩
        · exact False.elim q2
      | tup ds =>
        obtain ⟨p, vs, rfl, h1, rr⟩ := RP.tup r1
        simp only [index] at q2
        split at q2
        · rename_i d e
          obtain ⟨v, h2, h3⟩ := ix_get rr e
          exact .inr (.inl ⟨p, vs, i, v, rfl, ey, SqT.of (s2.gh _ _ h1), h2, post_val s2.gh q2 h3⟩)
        · exact False.elim q2
      | str z =>
        simp only [index] at q2
        split at q2
        · rename_i hz
          split at q2
          · rename_i c e
            exact .inr (.inr ⟨z, i, c, RP.str r1, ey, by rw [sizeLine_eq]; exact hz, e, post_val s2.gh q2 (.str _)⟩)
          · exact False.elim q2
        · exact False.elim q2
      | _ => exact False.elim q2
    | _ => cases da <;> exact False.elim q2⟩⟩
abbrev SO (X : Cx) (T : Tab) (ca xa : Nat → Addr) (cx : Hand) (G0 H0 : Hp) (W : WX) (e : Option Expr) (f : Env → Res (Option Int)) : Prop := PO X e (tR (PX X T ca xa) cx G0 H0 W RO f)
theorem _root_.L2.PO.imp {X : Cx} {e : Option Expr} {t t' : TO} (h : PO X e t) (i : ∀ σ H Q, t' σ H Q → t σ H Q) : PO X e t' := ⟨fun pins s σ H Q I q => h.run pins s σ H Q I (i σ H Q q)⟩
theorem o_none : SO X T ca xa cx G0 H0 W none fun _ => .ok none := po_none.imp fun σ H Q ⟨G, env, rel, p⟩ => p none H G (Step.refl rel.gh) rfl
theorem o_some (ha : SE X T ca xa cx G0 H0 W a f) : SO X T ca xa cx G0 H0 W (some a) fun env => (f env).bind fun x => (asInt x).bind fun i => .ok (some i) :=
  (po_some ha).imp fun σ H Q ⟨G, env, rel, p⟩ => ⟨G, env, rel, Post.bind anti_RO p fun r x H1 G1 s1 r1 q1 => by
    obtain ⟨k, e, q⟩ := post_int r1 q1
    exact ⟨k, e, q (some k) H1 G1 (Step.refl s1.gh) rfl⟩⟩
theorem cut_eq (vs : List V) (lo hi : Option Int) : cutV vs lo hi = cutL vs lo hi := rfl
theorem cut_rep {P : Par} {G : Hp} {vs : List V} {ds : List D} (r : Reps P G vs ds) (lo hi : Option Int) : Reps P G (cutV vs lo hi) (cutL ds lo hi) := by
  unfold cutV cutL
  rw [r.length]
  exact (r.drop _).take _
theorem s_sl {lo hi : Option Expr} {p2 : Pos} {fl fh : Env → Res (Option Int)} (ha : SP' X T ca xa cx G0 H0 W a fa) (hl : SO X T ca xa cx G0 H0 W lo fl) (hh : SO X T ca xa cx G0 H0 W hi fh) :
    SE X T ca xa cx G0 H0 W (.Subscript a (.Slice lo hi none p2) pos) fun env => (fa env).bind fun x => (fl env).bind fun l => (fh env).bind fun h => slice x l h :=
  (pe_slice (sl_list.or (sl_tup.or sl_str)) ha hl hh).imp fun σ H Q ⟨G, env, rel, p⟩ => ⟨G, env, rel, Post.bind anti_RV p fun da x H1 G1 s1 r1 q1 => ⟨G1, env, rel.step s1, Post.bind anti_RV q1 fun l l' H2 G2 s2 e2 q2 =>
    ⟨G2, env, (rel.step s1).step s2, Post.bind anti_RV q2 fun h h' H3 G3 s3 e3 q3 => by
    have e2 : l' = l := e2
    have e3 : h' = h := e3
    subst e2
    subst e3
    have r1 := RP.step (RP.step r1 s2) s3
    cases da with
    | lst ds =>
      obtain ⟨p, vs, rfl, h1, rr⟩ := RP.lst s3.gh r1
      exact .inl ⟨p, vs, rfl, h1, fun q hq => post_own s3.gh q3 (cut_rep rr _ _) hq⟩
    | tup ds =>
      obtain ⟨p, vs, rfl, h1, rr⟩ := RP.tup r1
      simp only [slice] at q3
      split at q3
      · exact False.elim q3
      · rename_i nz
        exact .inr (.inl ⟨p, vs, rfl, SqT.of (s3.gh _ _ h1), by rw [rr.length]; exact nz, fun q hq => post_tup s3.gh q3 (cut_rep rr _ _) hq⟩)
    | str z =>
      simp only [slice] at q3
      split at q3
      · rename_i hz
        refine .inr (.inr ⟨z, RP.str r1, by rw [sizeLine_eq]; exact hz, ?_⟩)
        have e : cutS z l' h' = ⟨(cutL z.cps.toList l' h').toArray⟩ := by
          unfold cutS cutL
          rw [TL.len_tl]
          rfl
        rw [e]
        exact post_val s3.gh q3 (.str _)
      · exact False.elim q3
    | _ => exact False.elim q3⟩⟩⟩

end
end PL

set_option linter.all false
set_option Elab.async false
set_option maxRecDepth 100000
set_option maxHeartbeats 1000000
/-! Soundness, part 5: built-ins. -/
namespace PL
open PySem PySem.Spec PyProof.Rows L2
section
variable {X : Cx} {T : Tab} {ca xa : Nat → Addr} {cx : Hand} {G0 H0 : Hp} {W : WX} {a b c d : Expr} {fa fb fc fd : Env → Res D} {f g : Env → Res Vl} {pos : Pos}
/-! ### built-ins -/
def RLst (P : Par) (g : D → Res Vl) (r : List V → Hp → VK → Prop) : Prop := ∀ (W : WX) (σ : St) (G H : Hp) (x : V) (d : D) (Q : VK), Same G H → RP P H G H x d → Post P W σ G H (RV P) (g d) Q → r [x] H Q
theorem s_call1 {r : List V → Hp → VK → Prop} {g : D → Res Vl} {e : Expr} (hp : RLst (PX X T ca xa) g r) (ha : SP' X T ca xa cx G0 H0 W a fa) (hn : noStar a = true) (he : ∀ {t : TA}, PA X [a] t → PE X e (tCB r t)) :
    SE X T ca xa cx G0 H0 W e fun env => (fa env).bind fun x => g x :=
  (he (pa_cons ha pa_nil (star_cons hn))).imp fun σ H Q ⟨G, env, rel, p⟩ => ⟨G, env, rel, Post.bind anti_RV p fun da x H1 G1 s1 r1 q1 => hp W σ G1 H1 x da Q s1.gh r1 q1⟩
theorem l_len : RLst (PX X T ca xa) (b1 .len) (fun xs H Q => ∃ x n, xs = [x] ∧ LenV X.K x H n ∧ Q (.int n) H) := by
  intro W σ G H x d Q s r p
  cases d with
  | lst ds =>
    obtain ⟨a, vs, rfl, h, rr⟩ := r.lst s
    exact ⟨_, vs.length, rfl, .inl ⟨vs, h, rfl⟩, by rw [rr.length]; exact post_val s p (.int _)⟩
  | tup ds =>
    obtain ⟨a, vs, rfl, h, rr⟩ := r.tup
    exact ⟨_, vs.length, rfl, .inr ⟨vs, SqT.of (s _ _ h), rfl⟩, by rw [rr.length]; exact post_val s p (.int _)⟩
  | str z =>
    simp only [b1, len] at p
    split at p
    · rename_i hz
      rw [r.str]
      exact ⟨_, z.length, rfl, ⟨by rw [sizeLine_eq]; exact hz, rfl⟩, post_val s p (.int _)⟩
    · exact False.elim p
  | _ => exact False.elim p
theorem l_abs : RLst (PX X T ca xa) (b1 .abs) (fun xs H Q => ∃ i, xs = [.int i] ∧ Q (.int (if i < 0 then -i else i)) H) := by
  intro W σ G H x d Q s r p
  cases d with
  | int i => exact ⟨i, by rw [r.int], post_val s p (.int _)⟩
  | _ => exact False.elim p
theorem l_int : RLst (PX X T ca xa) (b1 .int) (fun xs H Q => ((∃ i, xs = [.int i] ∧ Q (.int i) H) ∨ ∃ k, xs = [.bl k] ∧ Q (.int (if k then 1 else 0)) H) ∨ ∃ a n, xs = [.str a] ∧ PySem.intText? a = some n ∧ a.length ≤ 640 ∧ Q (.int n) H) := by
  intro W σ G H x d Q s r p
  cases d with
  | int i => exact .inl (.inl ⟨i, by rw [r.int], post_val s p (.int _)⟩)
  | bl k => exact .inl (.inr ⟨k, by rw [r.bl], post_val s p (.int _)⟩)
  | str z =>
    simp only [b1] at p
    split at p
    · rename_i n e
      split at p
      · rename_i hz
        exact .inr ⟨z, n, by rw [r.str], e, hz, post_val s p (.int _)⟩
      · exact False.elim p
    · exact False.elim p
  | _ => exact False.elim p
theorem l_str : RLst (PX X T ca xa) (b1 .str) (fun xs H Q => ∃ i, xs = [.int i] ∧ i.natAbs.log2 < 1920 ∧ Q (.str (toString i)) H) := by
  intro W σ G H x d Q s r p
  cases d with
  | int i =>
    simp only [b1] at p
    split at p
    · rename_i h
      exact ⟨i, by rw [r.int], h, post_val s p (.str _)⟩
    · exact False.elim p
  | _ => exact False.elim p
theorem l_sum : RLst (PX X T ca xa) (b1 .sum) (rSum X.K) := by
  intro W σ G H x d Q s r p
  cases d with
  | lst ds =>
    obtain ⟨a, vs, rfl, h, rr⟩ := r.lst s
    simp only [b1] at p
    split at p
    · rename_i ns e
      obtain ⟨e1, _⟩ := rr.intsOf e
      subst e1
      exact ⟨a, ns, rfl, h, post_val s p (.int _)⟩
    · exact False.elim p
  | _ => exact False.elim p
theorem l_lst : RLst (PX X T ca xa) (b1 .lst) (fun xs H Q => ∃ p ys, xs = [.ref p] ∧ (SqL X.K H p ys ∨ SqT X.K H p ys) ∧ ∀ l, H l = none → Q (.ref l) (upd H l (.lst ys))) := by
  intro W σ G H x d Q s r p
  cases d with
  | lst ds =>
    obtain ⟨a, vs, rfl, h, rr⟩ := r.lst s
    exact ⟨a, vs, rfl, .inl h, fun l hl => post_own s p rr hl⟩
  | tup ds =>
    obtain ⟨a, vs, rfl, h, rr⟩ := r.tup
    exact ⟨a, vs, rfl, .inr (SqT.of (s _ _ h)), fun l hl => post_own s p rr hl⟩
  | _ => exact False.elim p
theorem l_tup : RLst (PX X T ca xa) (b1 .tup) (fun xs H Q => ∃ p ys, xs = [.ref p] ∧ ((SqL X.K H p ys ∧ ∀ l, H l = none → Q (.ref l) (upd H l (.tup ys))) ∨ (SqT X.K H p ys ∧ Q (.ref p) H))) := by
  intro W σ G H x d Q s r p
  cases d with
  | lst ds =>
    obtain ⟨a, vs, rfl, h, rr⟩ := r.lst s
    exact ⟨a, vs, rfl, .inl ⟨h, fun l hl => post_tup s p rr hl⟩⟩
  | tup ds =>
    obtain ⟨a, vs, rfl, h, rr⟩ := r.tup
    exact ⟨a, vs, rfl, .inr ⟨SqT.of (s _ _ h), post_val s p (.tup h rr)⟩⟩
  | _ => exact False.elim p
theorem fold_max : ∀ (ns : List Int) (n : Int), ns.foldl max n ∈ n :: ns ∧ ∀ y ∈ n :: ns, y ≤ ns.foldl max n
  | [], n => ⟨List.mem_cons_self, fun y h => by simp at h; subst h; exact Int.le_refl _⟩
  | m :: ns, n => by
    obtain ⟨h1, h2⟩ := fold_max ns (max n m)
    rw [List.foldl_cons]
    refine ⟨?_, fun y hy => ?_⟩
    · rcases List.mem_cons.mp h1 with e | e
      · rw [e]
        by_cases q : n ≤ m
        · rw [Int.max_eq_right q]; simp
        · rw [Int.max_eq_left (by omega)]; simp
      · simp [e]
    · have hm := h2 (max n m) List.mem_cons_self
      rcases List.mem_cons.mp hy with e | e
      · subst e; omega
      · rcases List.mem_cons.mp e with e | e
        · subst e; omega
        · exact h2 y (List.mem_cons_of_mem _ e)
theorem fold_min : ∀ (ns : List Int) (n : Int), ns.foldl min n ∈ n :: ns ∧ ∀ y ∈ n :: ns, ns.foldl min n ≤ y
  | [], n => ⟨List.mem_cons_self, fun y h => by simp at h; subst h; exact Int.le_refl _⟩
  | m :: ns, n => by
    obtain ⟨h1, h2⟩ := fold_min ns (min n m)
    rw [List.foldl_cons]
    refine ⟨?_, fun y hy => ?_⟩
    · rcases List.mem_cons.mp h1 with e | e
      · rw [e]
        by_cases q : n ≤ m
        · rw [Int.min_eq_left q]; simp
        · rw [Int.min_eq_right (by omega)]; simp
      · simp [e]
    · have hm := h2 (min n m) List.mem_cons_self
      rcases List.mem_cons.mp hy with e | e
      · subst e; omega
      · rcases List.mem_cons.mp e with e | e
        · subst e; omega
        · exact h2 y (List.mem_cons_of_mem _ e)
theorem l_max : RLst (PX X T ca xa) (b1 .max) (rMax X.K) := by
  intro W σ G H x d Q s r p
  cases d with
  | lst ds =>
    obtain ⟨a, vs, rfl, h, rr⟩ := r.lst s
    simp only [b1] at p
    split at p
    · rename_i n ns e
      obtain ⟨e1, _⟩ := rr.intsOf e
      subst e1
      refine ⟨a, n :: ns, rfl, h, by simp, fun m hm hy => ?_⟩
      obtain ⟨f1, f2⟩ := fold_max ns n
      have e3 : m = ns.foldl max n := Int.le_antisymm (f2 m hm) (hy _ f1)
      rw [e3]
      exact post_val s p (.int _)
    · exact False.elim p
  | _ => exact False.elim p
theorem l_min : RLst (PX X T ca xa) (b1 .min) (rMin X.K) := by
  intro W σ G H x d Q s r p
  cases d with
  | lst ds =>
    obtain ⟨a, vs, rfl, h, rr⟩ := r.lst s
    simp only [b1] at p
    split at p
    · rename_i n ns e
      obtain ⟨e1, _⟩ := rr.intsOf e
      subst e1
      refine ⟨a, n :: ns, rfl, h, by simp, fun m hm hy => ?_⟩
      obtain ⟨f1, f2⟩ := fold_min ns n
      have e3 : m = ns.foldl min n := Int.le_antisymm (hy _ f1) (f2 m hm)
      rw [e3]
      exact post_val s p (.int _)
    · exact False.elim p
  | _ => exact False.elim p
/-! sorted -/
theorem leI_total : ∀ a b : Int, (leI a b || leI b a) = true := fun a b => by
  unfold leI
  simp only [Bool.or_eq_true, decide_eq_true_eq]
  omega
theorem leI_trans : ∀ a b c : Int, leI a b = true → leI b c = true → leI a c = true := fun a b c h1 h2 => by
  unfold leI at *
  simp only [decide_eq_true_eq] at *
  omega
theorem sort_uniq {α : Type} {le : α → α → Bool} (anti : ∀ a b, le a b = true → le b a = true → a = b) : ∀ {l m : List α}, l.Pairwise (fun a b => le a b = true) → m.Pairwise (fun a b => le a b = true) → l.Perm m → l = m
  | [], m, _, _, h => (List.Perm.eq_nil h.symm).symm
  | x :: l, [], _, _, h => absurd h.length_eq (by simp)
  | x :: l, y :: m, hl, hm, h => by
    have e : x = y := by
      rcases List.mem_cons.mp (h.mem_iff.mp (List.mem_cons_self (a := x) (l := l))) with e | hx
      · exact e
      · rcases List.mem_cons.mp (h.mem_iff.mpr (List.mem_cons_self (a := y) (l := m))) with e | hy
        · exact e.symm
        · exact anti x y ((List.pairwise_cons.mp hl).1 y hy) ((List.pairwise_cons.mp hm).1 x hx)
    subst e
    rw [sort_uniq anti (List.pairwise_cons.mp hl).2 (List.pairwise_cons.mp hm).2 h.cons_inv]
theorem sort_ints {ns ns' : List Int} (h : ns'.Perm ns) (s : ns'.Pairwise (· ≤ ·)) : ns' = ns.mergeSort leI := by
  refine sort_uniq (le := leI) (fun a b h1 h2 => by unfold leI at *; simp only [decide_eq_true_eq] at *; omega) (s.imp fun q => decide_eq_true q) ?_ (h.trans (List.mergeSort_perm ns leI).symm)
  exact List.pairwise_mergeSort leI_trans leI_total ns
/-! ### sorting triples of ints -/
section
open Srt SrtO
variable {prog : Program} {w : World} {A : Around} {E : Value → Shared → Prop} {s : Shared}
/-- v is a tuple of three ints in the heap -/
def IsTrip (h : Heap) (v : Value) (k : Int × Int × Int) : Prop := ∃ a o t u r n, v = .ref a ∧ h.get? a = some o ∧ o.cls = .type "tuple" ∧ o.data = .seq #[.int k.1 t, .int k.2.1 u, .int k.2.2 r] n
theorem IsTrip.keeps {h h' : Heap} {v : Value} {k : Int × Int × Int} (p : IsTrip h v k) (z : ∀ b o, h.get? b = some o → o.cls = .type "tuple" → h'.get? b = some o) : IsTrip h' v k := by
  obtain ⟨a, o, t, u, r, n, e, ho, hc, hd⟩ := p
  exact ⟨a, o, t, u, r, n, e, z _ _ ho hc, hc, hd⟩
def lex3 (p q : Int × Int × Int) : Bool := if p.1 = q.1 then (if p.2.1 = q.2.1 then decide (p.2.2 < q.2.2) else decide (p.2.1 < q.2.1)) else decide (p.1 < q.1)
theorem lex3_iff {p q : Int × Int × Int} : lex3 p q = true ↔ p.1 < q.1 ∨ (p.1 = q.1 ∧ (p.2.1 < q.2.1 ∨ (p.2.1 = q.2.1 ∧ p.2.2 < q.2.2))) := by
  unfold lex3
  by_cases e : p.1 = q.1
  · rw [if_pos e]
    by_cases f : p.2.1 = q.2.1
    · rw [if_pos f, decide_eq_true_eq]
      omega
    · rw [if_neg f, decide_eq_true_eq]
      omega
  · rw [if_neg e, decide_eq_true_eq]
    omega
theorem lex3_no {p q : Int × Int × Int} : lex3 p q = false ↔ ¬ (p.1 < q.1 ∨ (p.1 = q.1 ∧ (p.2.1 < q.2.1 ∨ (p.2.1 = q.2.1 ∧ p.2.2 < q.2.2)))) := by
  rw [← lex3_iff]
  cases lex3 p q <;> simp
theorem swo_lex3 {α : Type} (k : α → Int × Int × Int) : Swo fun v u => lex3 (k v) (k u) := by
  refine ⟨fun x y h => ?_, fun x y z h1 h2 => ?_⟩
  · have a := lex3_iff.mp h
    refine lex3_no.mpr ?_
    omega
  · have a := lex3_no.mp h1
    have b := lex3_no.mp h2
    refine lex3_no.mpr ?_
    omega
theorem trip_cmp {vs : List Value} {k : Value → Int × Int × Int} (hp : ∀ v ∈ vs, IsTrip s.heap v (k v)) : Cmp prog w A s (tuples' true) (fun p => p.1 ∈ vs) (lt2 fun v u => lex3 (k v) (k u)) := by
  intro p q hm hm'
  have h1 := hp _ hm
  have h2 := hp _ hm'
  show wpAny (model prog w) A (keyLt' (tuples' true) p.1 q.1) (fun r s' => s' = s ∧ r = lex3 (k p.1) (k q.1)) (fun _ _ => False) s
  generalize k p.1 = kp at h1 ⊢
  generalize k q.1 = kq at h2 ⊢
  obtain ⟨x, y, z⟩ := kp
  obtain ⟨x', y', z'⟩ := kq
  unfold lex3
  obtain ⟨a, o, t, u, r, n, e, ho, hc, hd⟩ := h1
  obtain ⟨a', o', t', u', r', n', e', ho', hc', hd'⟩ := h2
  rw [e, e']
  refine PySem.W.kat_lt ho hd ho' hd' ?_
  show PySem.W.KatLex prog w A true (decide (3 < 3)) _ [(.int x t, .int x' t'), (.int y u, .int y' u'), (.int z r, .int z' r')] 0 s
  dsimp only
  refine PySem.W.kat_cons (SeqAt.EqAt.int_int x t x' t' prog w _ _ ?_)
  refine PySem.W.kat_go (fun e1 => ?_) (fun e1 => ?_)
  · have ex : x = x' := by simpa using e1
    refine PySem.W.kat_yes (PySem.W.kat_cons (SeqAt.EqAt.int_int y u y' u' prog w _ _ ?_))
    refine PySem.W.kat_go (fun e2 => ?_) (fun e2 => ?_)
    · have ey : y = y' := by simpa using e2
      refine PySem.W.kat_yes (PySem.W.kat_cons (SeqAt.EqAt.int_int z r z' r' prog w _ _ ?_))
      refine PySem.W.kat_go (fun e3 => ?_) (fun e3 => ?_)
      · have ez : z = z' := by simpa using e3
        have e4 : (if x = x' then (if y = y' then decide (z < z') else decide (y < y')) else decide (x < x')) = false := by
          rw [if_pos ex, if_pos ey, ez]
          exact decide_eq_false (Int.lt_irrefl _)
        exact PySem.W.kat_yes (PySem.W.kat_nil ⟨rfl, e4.symm⟩)
      · have e4 : (if x = x' then (if y = y' then decide (z < z') else decide (y < y')) else decide (x < x')) = decide (z < z') := by rw [if_pos ex, if_pos ey]
        refine PySem.W.kat_no (PySem.W.kat_one _ _ (PyProof.Rows.lt_int ?_))
        exact (show s = s ∧ decide (z < z') = _ from ⟨rfl, e4.symm⟩)
    · have ey : ¬ y = y' := by simpa using e2
      have e4 : (if x = x' then (if y = y' then decide (z < z') else decide (y < y')) else decide (x < x')) = decide (y < y') := by rw [if_pos ex, if_neg ey]
      refine PySem.W.kat_no (PySem.W.kat_one _ _ (PyProof.Rows.lt_int ?_))
      exact (show s = s ∧ decide (y < y') = _ from ⟨rfl, e4.symm⟩)
  · have ex : ¬ x = x' := by simpa using e1
    have e4 : (if x = x' then (if y = y' then decide (z < z') else decide (y < y')) else decide (x < x')) = decide (x < x') := if_neg ex
    exact PySem.W.kat_no (oneLt_int ⟨rfl, e4.symm⟩)
theorem firsts3 {h : Heap} : ∀ {vs : List Value}, (∀ v ∈ vs, ∃ k, IsTrip h v k) → ∃ fs : List Value, PySem.W.KatTups h vs fs ∧ fs.length = vs.length ∧ ∀ f ∈ fs, ∃ x t, f = Value.int x t
  | [], _ => ⟨[], PySem.W.KatTups.nil, rfl, fun _ hm => by simp at hm⟩
  | v :: vs, hp => by
    obtain ⟨fs, h1, h2, h3⟩ := firsts3 (vs := vs) fun v' hm => hp v' (List.mem_cons_of_mem _ hm)
    obtain ⟨k, a, o, t, u, r, n, e, ho, hc, hd⟩ := hp v (List.mem_cons_self ..)
    subst e
    refine ⟨.int k.1 t :: fs, PySem.W.KatTups.cons ho hc hd rfl h1, by rw [List.length_cons, List.length_cons, h2], fun f hm => ?_⟩
    rcases List.mem_cons.mp hm with rfl | hm
    · exact ⟨k.1, t, rfl⟩
    · exact h3 f hm
theorem trips_sortable {a : Addr} {vs : List Value} {k : Value → Int × Int × Int} (h0 : 0 < vs.length) (hp : ∀ v ∈ vs, IsTrip s.heap v (k v)) (ha : ∀ o, s.heap.get? a = some o → o.cls ≠ .type "tuple") : SortableO prog w A s a vs fun v u => lex3 (k v) (k u) := by
  intro h' keep
  have hp' : ∀ v ∈ vs, IsTrip h' v (k v) := fun v hm => (hp v hm).keeps fun b o e c => keep b o (fun z => by subst z; exact ha o e c) e
  obtain ⟨fs, h1, h2, h3⟩ := firsts3 fun v hm => ⟨_, hp' v hm⟩
  refine ⟨tuples' true, fun Q E hq => ?_, trip_cmp hp'⟩
  refine PySem.W.kat_kind (T := .type "int") h1 (by omega) (fun f hm => ?_) (by rfl) ?_
  · obtain ⟨x, t, rfl⟩ := h3 f hm
    exact PySem.W.Looks.now
  · have e : (Value.type "int" != Value.type "tuple") = true := by first | decide +kernel | rfl | decide
    rw [e]
    exact hq
theorem sorted_trips {l : Addr} {vs : List Value} {k : Value → Int × Int × Int} {Q : Value → Shared → Prop} (hl : s.heap.IsList l vs.toArray) (hz : vs.length ≤ sizeLine) (hp : ∀ v ∈ vs, IsTrip s.heap v (k v))
    (h : ∀ (h' : Heap) (d : Addr) (out : List Value), Srtd (fun v u => lex3 (k v) (k u)) out → Stb (fun v u => lex3 (k v) (k u)) out vs → (∀ b o, s.heap.get? b = some o → h'.get? b = some o) → s.heap.objs.size ≤ d → (∃ n, h'.get? d = some (seqObj "list" out.toArray n)) → Q (.ref d) { s with heap := h' }) :
    wpAny (model prog w) A (call (.builtin "sorted") [.ref l]) Q E s := by
  refine sorted_ord (swo_lex3 k) hl hz (fun h2 h₁ a ha kk => ?_) fun out hs hb => ?_
  · refine trips_sortable (s := { s with heap := h₁ }) (by omega) (fun v hm => (hp v hm).keeps fun b o e _ => (kk b o e).2) fun o e => ?_
    have e' : some o = some (seqObj "list" vs.toArray 0) := e.symm.trans ha
    cases e'
    intro c
    exact absurd (Value.type.inj c) (by decide)
  · exact h _ _ out hs hb (fun b o e => sortedAll_old e) (Nat.le_succ _) (sortedAll_at s.heap vs out.toArray)
end
abbrev lt3 (k : V → Int × Int × Int) (x y : V) : Bool := lex3 (k x) (k y)
def rSorted3 (K : PySem.W.Frag) : List V → Hp → VK → Prop := fun vs H Q => ∃ (a : Addr) (xs : List V) (k : V → Int × Int × Int), vs = [V.ref a] ∧ SqL K H a xs ∧ (∀ x ∈ xs, ∃ t, x = V.ref t ∧ H t = some (.tup [.int (k x).1, .int (k x).2.1, .int (k x).2.2])) ∧
  ∀ ys p, SrtO.Srtd (lt3 k) ys → SrtO.Stb (lt3 k) ys xs → H p = none → Q (.ref p) (upd H p (.lst ys))
theorem vals3 {x y z : V} {us : List Value} (r : Vals [x, y, z] us) : ∃ a b c, us = [a, b, c] ∧ Vals [x] [a] ∧ Vals [y] [b] ∧ Vals [z] [c] := by
  cases r with
  | cons h1 r =>
    cases r with
    | cons h2 r =>
      cases r with
      | cons h3 r =>
        cases r
        exact ⟨_, _, _, rfl, .cons h1 .nil, .cons h2 .nil, .cons h3 .nil⟩
theorem cr_sorted3 {X : Cx} : CallR X (.builtin "sorted") (rSorted3 X.K) := by
  intro pins s σ H vs us Q I r h
  obtain ⟨a, xs, k, rfl, hs, hx, q⟩ := h
  obtain ⟨its, rv, hl, hz⟩ := I.list hs
  obtain ⟨u, rfl, ru⟩ := vals1 r
  obtain rfl : u = Value.ref a := ru
  obtain ⟨e1, e2⟩ := refs_back rv fun x m => by
    obtain ⟨t, e, _⟩ := hx x m
    exact ⟨t, e⟩
  refine sorted_trips (k := fun u => k (backV u)) hl.isList (by rw [← rv.length]; exact hz) (fun v hv => ?_) fun h' d out h1 h2 kp hd hn => ?_
  · obtain ⟨t, rfl⟩ := e2 v hv
    have hm : V.ref t ∈ xs := by rw [e1]; exact List.mem_map.mpr ⟨_, hv, rfl⟩
    obtain ⟨t', e, ht⟩ := hx _ hm
    cases e
    obtain ⟨_, its2, r2, o, ho, hc, n, hd⟩ := I.hok _ _ ht
    obtain ⟨u1, u2, u3, rfl, ri, rj, rk⟩ := vals3 r2
    obtain ⟨_, z1, ri⟩ := vals1 ri
    obtain ⟨_, z2, rj⟩ := vals1 rj
    obtain ⟨_, z3, rk⟩ := vals1 rk
    cases z1
    cases z2
    cases z3
    obtain ⟨t1, rfl⟩ := ri
    obtain ⟨t2, rfl⟩ := rj
    obtain ⟨t3, rfl⟩ := rk
    exact ⟨t, o, t1, t2, t3, n, rfl, ho, hc, hd⟩
  · have h3 : ∀ u ∈ out, ∃ a, u = Value.ref a := fun u hu => e2 u (h2.perm.mem_iff.mp hu)
    obtain ⟨n, hn⟩ := hn
    have hb : SrtO.Stb (lt3 k) (out.map backV) xs := by
      rw [e1]
      exact SrtO.Stb.map (swo_lex3 k) backV h2
    refine ⟨.ref d, upd H d (.lst (out.map backV)), I.laid (t' := s.toks) kp hd ⟨?_, out, n, vals_back h3, hn⟩, rfl, q _ d (SrtO.srtd_map h1) hb (I.hok.fresh hd)⟩
    rw [hb.len]
    exact hz
theorem trip_reps {P : Par} {G : Hp} (k : V → Int × Int × Int) : ∀ (ys : List V), (∀ y ∈ ys, ∃ t, y = V.ref t ∧ G t = some (.tup [.int (k y).1, .int (k y).2.1, .int (k y).2.2])) → Reps P G ys ((ys.map k).map fun p => .tup [.int p.1, .int p.2.1, .int p.2.2])
  | [], _ => .nil
  | y :: ys, h => by
    obtain ⟨t, e1, e2⟩ := h y List.mem_cons_self
    refine .cons ?_ (trip_reps k ys fun z hz => h z (List.mem_cons_of_mem _ hz))
    rw [e1] at e2 ⊢
    exact .tup e2 (.cons (.int _) (.cons (.int _) (.cons (.int _) .nil)))
theorem trip_key {P : Par} {G : Hp} {vs : List V} {ds : List D} {ps : List (Int × Int × Int)} (rr : Reps P G vs ds) (e : tripsOf ds = some ps) : ∃ k : V → Int × Int × Int, vs.map k = ps ∧ ∀ x ∈ vs, ∃ t, x = V.ref t ∧ G t = some (.tup [.int (k x).1, .int (k x).2.1, .int (k x).2.2]) := by
  refine ⟨fun x => match x with
    | .ref t => (match G t with
      | some (.tup [.int i, .int j, .int l]) => (i, j, l)
      | _ => (0, 0, 0))
    | _ => (0, 0, 0), ?_⟩
  induction ds generalizing vs ps with
  | nil =>
    cases rr
    cases e
    exact ⟨rfl, fun _ z => nomatch z⟩
  | cons d ds ih =>
    cases rr with
    | @cons v vs _ _ h r =>
      cases h with
      | @tup t ws es hg hr =>
        cases hr with
        | nil => simp [tripsOf] at e
        | cons h1 r1 =>
          cases r1 with
          | nil => cases h1 <;> simp [tripsOf] at e
          | cons h2 r2 =>
            cases r2 with
            | nil => cases h1 <;> cases h2 <;> simp [tripsOf] at e
            | cons h3 r3 =>
              cases r3 with
              | cons _ _ => cases h1 <;> cases h2 <;> cases h3 <;> simp [tripsOf] at e
              | nil =>
                cases h1 <;> cases h2 <;> cases h3 <;> first | (simp [tripsOf] at e; done) | skip
                rename_i i j l
                simp only [tripsOf] at e
                cases q : tripsOf ds with
                | none => rw [q] at e; simp at e
                | some qs =>
                  rw [q] at e
                  simp only [Option.map_some, Option.some.injEq] at e
                  subst e
                  obtain ⟨e1, e2⟩ := ih r q
                  refine ⟨?_, fun x hx => ?_⟩
                  · rw [List.map_cons, e1]
                    simp only [hg]
                  · rcases List.mem_cons.mp hx with z | z
                    · subst z
                      exact ⟨t, rfl, by simp only [hg]⟩
                    · exact e2 x z
      | _ => simp [tripsOf] at e
theorem sort_trips {k : V → Int × Int × Int} {ys vs : List V} (hs : SrtO.Srtd (lt3 k) ys) (hb : SrtO.Stb (lt3 k) ys vs) : ys.map k = (vs.map k).mergeSort le3 := by
  have lex_le : ∀ u v : Int × Int × Int, lex3 v u = false → le3 u v = true := fun u v h => by
    have h' := lex3_no.mp h
    simp only [le3, Bool.or_eq_true, Bool.and_eq_true, decide_eq_true_eq]
    omega
  have so : (ys.map k).Pairwise (fun u v => le3 u v = true) := by
    rw [List.pairwise_map]
    exact hs.imp fun q => lex_le _ _ q
  refine sort_uniq (le := le3) (fun u v h1 h2 => ?_) so (List.pairwise_mergeSort (fun u v w h1 h2 => ?_) (fun u v => ?_) (vs.map k)) ((hb.perm.map k).trans (List.mergeSort_perm (vs.map k) le3).symm)
  · obtain ⟨u1, u2, u3⟩ := u
    obtain ⟨v1, v2, v3⟩ := v
    simp only [le3, Bool.or_eq_true, Bool.and_eq_true, decide_eq_true_eq] at h1 h2
    have a1 : u1 = v1 := by omega
    have a2 : u2 = v2 := by omega
    have a3 : u3 = v3 := by omega
    rw [a1, a2, a3]
  · simp only [le3, Bool.or_eq_true, Bool.and_eq_true, decide_eq_true_eq] at h1 h2 ⊢
    omega
  · simp only [le3, Bool.or_eq_true, Bool.and_eq_true, decide_eq_true_eq]
    omega
theorem pair_reps {P : Par} {G : Hp} (k : V → Int × Int) : ∀ (ys : List V), (∀ y ∈ ys, ∃ t, y = V.ref t ∧ G t = some (.tup [.int (k y).1, .int (k y).2])) → Reps P G ys ((ys.map k).map fun p => .tup [.int p.1, .int p.2])
  | [], _ => .nil
  | y :: ys, h => by
    obtain ⟨t, e1, e2⟩ := h y List.mem_cons_self
    refine .cons ?_ (pair_reps k ys fun z hz => h z (List.mem_cons_of_mem _ hz))
    rw [e1] at e2 ⊢
    exact .tup e2 (.cons (.int _) (.cons (.int _) .nil))
theorem l_sorted : RLst (PX X T ca xa) (b1 .sorted) (fun vs H Q => (rSortedI X.K vs H Q ∨ rSortedPO X.K vs H Q) ∨ rSorted3 X.K vs H Q) := by
  intro W σ G H x d Q s r p
  cases d with
  | lst ds =>
    obtain ⟨a, vs, rfl, h, rr⟩ := r.lst s
    simp only [b1, sortD] at p
    split at p
    · rename_i ns e
      obtain ⟨e1, _⟩ := rr.intsOf e
      subst e1
      refine .inl (.inl ⟨a, ns, rfl, h, fun ns' q hp hs hq => ?_⟩)
      rw [sort_ints hp hs]
      exact post_own s p (Reps.ints _) hq
    · split at p
      · rename_i ps e
        have key : ∀ {vs : List V} {ds : List D} {ps : List (Int × Int)}, Reps (PX X T ca xa) G vs ds → pairsOf ds = some ps → ∃ k : V → Int × Int, vs.map k = ps ∧ ∀ x ∈ vs, ∃ t, x = V.ref t ∧ G t = some (.tup [.int (k x).1, .int (k x).2]) := by
          intro vs ds ps rr e
          refine ⟨fun x => match x with
            | .ref t => (match G t with
              | some (.tup [.int i, .int j]) => (i, j)
              | _ => (0, 0))
            | _ => (0, 0), ?_⟩
          induction ds generalizing vs ps with
          | nil =>
            cases rr
            cases e
            exact ⟨rfl, fun _ z => nomatch z⟩
          | cons d ds ih =>
            cases rr with
            | @cons v vs _ _ h r =>
              cases h with
              | @tup t ws es hg hr =>
                cases hr with
                | nil => simp [pairsOf] at e
                | cons h1 r1 =>
                  cases r1 with
                  | nil => cases h1 <;> simp [pairsOf] at e
                  | cons h2 r2 =>
                    cases r2 with
                    | cons _ _ => cases h1 <;> cases h2 <;> simp [pairsOf] at e
                    | nil =>
                      cases h1 <;> cases h2 <;> first | (simp [pairsOf] at e; done) | skip
                      rename_i i j
                      simp only [pairsOf] at e
                      cases q : pairsOf ds with
                      | none => rw [q] at e; simp at e
                      | some qs =>
                        rw [q] at e
                        simp only [Option.map_some, Option.some.injEq] at e
                        subst e
                        obtain ⟨e1, e2⟩ := ih r q
                        refine ⟨?_, fun x hx => ?_⟩
                        · rw [List.map_cons, e1]
                          simp only [hg]
                        · rcases List.mem_cons.mp hx with z | z
                          · subst z
                            exact ⟨t, rfl, by simp only [hg]⟩
                          · exact e2 x z
              | _ => simp [pairsOf] at e
        obtain ⟨k, k1, k2⟩ := key rr e
        refine .inl (.inr ⟨a, vs, k, rfl, h, fun x hx => ?_, fun ys q hs hb hq => ?_⟩)
        · obtain ⟨t, e1, e2⟩ := k2 x hx
          exact ⟨t, e1, s _ _ e2⟩
        · have pm : (ys.map k).Perm ps := by rw [← k1]; exact hb.perm.map k
          have lex_le : ∀ u v : Int × Int, SrtO.lexB v u = false → leP u v = true := fun u v h => by
            have h' : ¬ (v.1 < u.1 ∨ (v.1 = u.1 ∧ v.2 < u.2)) := fun z => by
              rw [SrtO.lexB_iff.mpr z] at h
              cases h
            simp only [leP, Bool.or_eq_true, Bool.and_eq_true, decide_eq_true_eq]
            omega
          have so : (ys.map k).Pairwise (fun u v => leP u v = true) := by
            rw [List.pairwise_map]
            exact hs.imp fun q => lex_le _ _ q
          have e3 : ys.map k = ps.mergeSort leP := by
            refine sort_uniq (le := leP) (fun u v h1 h2 => ?_) so (List.pairwise_mergeSort (fun u v w h1 h2 => ?_) (fun u v => ?_) ps) (pm.trans (List.mergeSort_perm ps leP).symm)
            · obtain ⟨u1, u2⟩ := u
              obtain ⟨v1, v2⟩ := v
              simp only [leP] at h1 h2
              simp at h1 h2
              have : u1 = v1 := by omega
              have : u2 = v2 := by omega
              simp_all
            · obtain ⟨u1, u2⟩ := u
              obtain ⟨v1, v2⟩ := v
              obtain ⟨w1, w2⟩ := w
              simp only [leP] at h1 h2 ⊢
              simp at h1 h2 ⊢
              omega
            · obtain ⟨u1, u2⟩ := u
              obtain ⟨v1, v2⟩ := v
              simp only [leP]
              simp
              omega
          rw [← e3] at p
          refine post_own s p ?_ hq
          have ys_in : ∀ y ∈ ys, ∃ t, y = V.ref t ∧ G t = some (.tup [.int (k y).1, .int (k y).2]) := fun y hy => k2 y (hb.perm.mem_iff.mp hy)
          exact pair_reps k ys ys_in
      · split at p
        · rename_i ts e
          obtain ⟨k, k1, k2⟩ := trip_key rr e
          refine .inr ⟨a, vs, k, rfl, h, fun x hx => ?_, fun ys q hs hb hq => ?_⟩
          · obtain ⟨t, e1, e2⟩ := k2 x hx
            exact ⟨t, e1, s _ _ e2⟩
          · rw [← k1, ← sort_trips hs hb] at p
            exact post_own s p (trip_reps k ys fun y hy => k2 y (hb.perm.mem_iff.mp hy)) hq
        · exact False.elim p
  | _ => exact False.elim p

/-- the names that the language knows -/
def b1Name : B1 → Str
  | .len => "len"
  | .abs => "abs"
  | .int => "int"
  | .str => "str"
  | .sum => "sum"
  | .lst => "list"
  | .tup => "tuple"
  | .sorted => "sorted"
  | .max => "max"
  | .min => "min"
  | .sortr => "sorted"
/-- called without keywords -/
def plainB1 : B1 → Bool
  | .sortr => false
  | _ => true
/-- called where an exception is handled, too -/
def hotB1 : B1 → Bool
  | .len => true
  | .abs => true
  | .int => true
  | .str => true
  | _ => false
def b2Name : B2 → Str
  | .max => "max"
  | .min => "min"
def tyName : Ty → Str
  | .int => "int"
  | .bool => "bool"
  | .str => "str"
  | .lst => "list"
  | .tup => "tuple"
theorem geI_total : ∀ a b : Int, (geI a b || geI b a) = true := fun a b => by
  unfold geI
  simp only [Bool.or_eq_true, decide_eq_true_eq]
  omega
theorem geI_trans : ∀ a b c : Int, geI a b = true → geI b c = true → geI a c = true := fun a b c h1 h2 => by
  unfold geI at *
  simp only [decide_eq_true_eq] at *
  omega
theorem sort_intsR {ns ns' : List Int} (h : ns'.Perm ns) (s : ns'.Pairwise (· ≥ ·)) : ns' = ns.mergeSort geI := by
  refine sort_uniq (le := geI) (fun a b h1 h2 => by unfold geI at *; simp only [decide_eq_true_eq] at *; omega) (s.imp fun q => decide_eq_true q) ?_ (h.trans (List.mergeSort_perm ns geI).symm)
  exact List.pairwise_mergeSort geI_trans geI_total ns
theorem l_sortr : RLst (PX X T ca xa) (b1 .sortr) (fun vs H Q => rSortedKw X.K true [.bl true] vs [.bl true] H Q) := by
  intro W σ G H x d Q s r p
  cases d with
  | lst ds =>
    obtain ⟨a, vs, rfl, h, rr⟩ := r.lst s
    simp only [b1] at p
    split at p
    · rename_i ns e
      obtain ⟨e1, _⟩ := rr.intsOf e
      subst e1
      refine ⟨a, ns, rfl, rfl, h, fun ns' q hp hs hq => ?_⟩
      rw [sort_intsR hp hs]
      exact post_own s p (Reps.ints _) hq
    · exact False.elim p
  | _ => exact False.elim p
theorem s_sortr {p q kp : Pos} {j : Nat} (hc : X.calm = true) (hg : Gl X "sorted") (hm : X.mg "sorted" = none) (ha : SP' X T ca xa cx G0 H0 W a fa) (hn : noStar a = true) : SE X T ca xa cx G0 H0 W (.Call (.Name "sorted" p) [a] [⟨some "reverse", .Constant (.bool true) j q, kp⟩] pos) fun env => (fa env).bind fun x => b1 .sortr x := by
  have st := star_cons (es := []) (env := X.env) hn
  exact s_call1 l_sortr ha hn fun t => pe_callBK (es := []) cr_sortedRev hg hm (by decide +kernel) t (pk_cons pe_bl pk_nil) (he := by rw [st]; rfl) (hpl := star_any (es := [a]) (by simp [hn]))
theorem s_b1 {k : B1} {p : Pos} (hk : plainB1 k = true) (hc : hotB1 k = true ∨ X.calm = true) (hg : Gl X (b1Name k)) (hm : X.mg (b1Name k) = none) (ha : SP' X T ca xa cx G0 H0 W a fa) (hn : noStar a = true) : SE X T ca xa cx G0 H0 W (.Call (.Name (b1Name k) p) [a] [] pos) fun env => (fa env).bind fun x => b1 k x := by
  have st := star_cons (es := []) (env := X.env) hn
  cases k with
  | len => exact s_call1 l_len ha hn fun t => pe_callB call_len hg hm PySem.boot_len t (he := st)
  | abs => exact s_call1 l_abs ha hn fun t => pe_callB call_abs hg hm (by decide +kernel) t (he := st)
  | int => exact s_call1 l_int ha hn fun t => pe_callTy (call_int1.or call_int_str) hg hm (by decide +kernel) t (he := st)
  | str => exact s_call1 l_str ha hn fun t => pe_callTy call_str_int hg hm (by decide +kernel) t (he := st)
  | sum => exact s_call1 l_sum ha hn fun t => pe_callB (cr_sum (hc.resolve_left (by decide))) hg hm (by decide +kernel) t (he := st)
  | lst => exact s_call1 l_lst ha hn fun t => pe_callTy call_list_of hg hm (by decide +kernel) t (he := st)
  | tup => exact s_call1 l_tup ha hn fun t => pe_callTy call_tuple_of hg hm (by decide +kernel) t (he := st)
  | sorted => exact s_call1 l_sorted ha hn fun t => pe_callB ((cr_sortedI.or cr_sortedPO).or cr_sorted3) hg hm (by decide +kernel) t (he := st)
  | max => exact s_call1 l_max ha hn fun t => pe_callB (cr_max (hc.resolve_left (by decide))) hg hm (by decide +kernel) t (he := st)
  | min => exact s_call1 l_min ha hn fun t => pe_callB (cr_min (hc.resolve_left (by decide))) hg hm (by decide +kernel) t (he := st)
  | sortr => cases hk
theorem s_fmt (ha : SE X T ca xa cx G0 H0 W a f) : SE X T ca xa cx G0 H0 W (.FormattedValue a (-1) none pos) fun env => (f env).bind fmtV :=
  (pe_fmt ha).imp fun σ H Q ⟨G, env, rel, p⟩ => ⟨G, env, rel, Post.bind anti_RV p fun da x H1 G1 s1 r1 q1 => by
    cases da with
    | own ds => exact False.elim q1
    | val d =>
      cases d with
      | str y =>
        simp only [fmtV] at q1
        split at q1
        · rename_i hz
          exact .inl ⟨y, RP.str (H0 := H) r1.toP, by rw [sizeLine_eq]; exact hz, post_val s1.gh q1 (.str _)⟩
        · exact False.elim q1
      | int i =>
        simp only [fmtV] at q1
        split at q1
        · rename_i hz
          exact .inr ⟨i, RP.int (H0 := H) r1.toP, hz, post_val s1.gh q1 (.str _)⟩
        · exact False.elim q1
      | _ => exact False.elim q1⟩
/-- an f-string's parts -/
def SJ (X : Cx) (T : Tab) (ca xa : Nat → Addr) (cx : Hand) (G0 H0 : Hp) (W : WX) (es : List Expr) (f : Str → Env → Res Vl) : Prop := ∃ ts, PJ X es ts ∧ ∀ (acc : Str) (σ : St) (G H : Hp) (env : Env) (Q : VK), Rel (PX X T ca xa) cx G0 H0 G H σ env → Post (PX X T ca xa) W σ G H (RV (PX X T ca xa)) (f acc env) Q → tJs ts acc σ H fun out H1 => Q (.str out) H1
theorem sj_nil : SJ X T ca xa cx G0 H0 W [] fun acc _ => .ok (.val (.str acc)) := ⟨[], .nil, fun acc σ G H env Q rel p => post_val rel.gh p (.str _)⟩
theorem sj_cons {es : List Expr} {h : Str → Env → Res Vl} (ha : SE X T ca xa cx G0 H0 W a f) (hb : SJ X T ca xa cx G0 H0 W es h) : SJ X T ca xa cx G0 H0 W (a :: es) fun acc env => (f env).bind fun x => jsStep acc x fun y => h y env := by
  obtain ⟨ts, h1, h2⟩ := hb
  refine ⟨_ :: ts, .cons ha h1, fun acc σ G H env Q rel p => ⟨G, env, rel, Post.bind anti_RV p fun da x H1 G1 s1 r1 q1 => ?_⟩⟩
  cases da with
  | own ds => exact False.elim q1
  | val d =>
    cases d with
    | str y =>
      simp only [jsStep] at q1
      split at q1
      · rename_i hz
        exact ⟨y, RP.str (H0 := H) r1.toP, by rw [sizeLine_eq]; exact hz, h2 _ σ G1 H1 env Q (rel.step s1) q1⟩
      · exact False.elim q1
    | _ => exact False.elim q1
theorem s_js {es : List Expr} {h : Str → Env → Res Vl} (hb : SJ X T ca xa cx G0 H0 W (a :: b :: es) h) : SE X T ca xa cx G0 H0 W (.JoinedStr (a :: b :: es) pos) fun env => h PySem.Str.empty env := by
  obtain ⟨ts, h1, h2⟩ := hb
  exact (pe_joined h1).imp fun σ H Q ⟨G, env, rel, p⟩ => h2 _ σ G H env Q rel p
theorem s_lrg {p p2 pos2 : Pos} (hc : X.calm = true) (hg : Gl X "list") (hm : X.mg "list" = none) (hg2 : Gl X "range") (hm2 : X.mg "range" = none) (ha : SE X T ca xa cx G0 H0 W a f) (hn : noStar a = true) :
    SE X T ca xa cx G0 H0 W (.Call (.Name "list" p) [.Call (.Name "range" p2) [a] [] pos2] [] pos) fun env => (f env).bind fun x => (asInt x).bind fun i => if inR i && decide (i ≤ SL) then .ok (.own (rangeD 0 i)) else .bad :=
  (pe_listRg hc hg hm (prg_1 hg2 hm2 ha (star_cons (es := []) hn))).imp fun σ H Q ⟨G, env, rel, p⟩ => ⟨G, env, rel, Post.bind anti_RV p fun da x H1 G1 s1 r1 q1 => by
    obtain ⟨i, e, q2⟩ := post_int r1 q1
    subst e
    split at q2
    · rename_i hz
      simp only [inR, Bool.and_eq_true, decide_eq_true_eq] at hz
      have hS : SL = 16777216 := rfl
      refine ⟨i, rfl, ⟨by omega, by omega, hz.1.1, hz.1.2, by omega⟩, fun q hq => post_own s1.gh q2 ?_ hq⟩
      have e1 : rgV 0 i = ((List.range (i - 0).toNat).map fun (k : Nat) => (0 : Int) + (k : Int)).map V.int := by
        unfold rgV
        rw [List.map_map]
        rfl
      have e2 : rangeD 0 i = ((List.range (i - 0).toNat).map fun (k : Nat) => (0 : Int) + (k : Int)).map D.int := by
        unfold rangeD
        rw [List.map_map]
        rfl
      rw [e1, e2]
      exact Reps.ints _
    · exact False.elim q2⟩
theorem s_b2 {k : B2} {p : Pos} (hc : X.calm = true) (hg : Gl X (b2Name k)) (hm : X.mg (b2Name k) = none) (ha : SP' X T ca xa cx G0 H0 W a fa) (hb : SP' X T ca xa cx G0 H0 W b fb) (hn : noStar a = true) (hn2 : noStar b = true) :
    SE X T ca xa cx G0 H0 W (.Call (.Name (b2Name k) p) [a, b] [] pos) fun env => (fa env).bind fun x => (fb env).bind fun y => b2 k x y := by
  have st := star_cons (es := [b]) (env := X.env) hn
  have an : ((backTo pos (starEach [b] X.env)).any (·.1)) = false := star_any (by simp [hn2])
  have pa := pa_cons ha (pa_cons hb pa_nil (star_cons (es := []) (env := X.env) hn2)) st
  cases k with
  | max =>
    refine (pe_callB (call_max2 hc) hg hm (by decide +kernel) pa (he := st) (hpl := an)).imp fun σ H Q ⟨G, env, rel, p⟩ => ⟨G, env, rel, Post.bind anti_RV p fun da x H1 G1 s1 r1 q1 => ⟨G1, env, rel.step s1, Post.bind anti_RV q1 fun db y H2 G2 s2 r2 q2 => ?_⟩⟩
    cases da with
    | int i => cases db with
      | int j => exact ⟨i, j, by rw [RP.int r1, RP.int r2], post_val s2.gh q2 (.int _)⟩
      | _ => exact False.elim q2
    | _ => cases db <;> exact False.elim q2
  | min =>
    refine (pe_callB (call_min2 hc) hg hm (by decide +kernel) pa (he := st) (hpl := an)).imp fun σ H Q ⟨G, env, rel, p⟩ => ⟨G, env, rel, Post.bind anti_RV p fun da x H1 G1 s1 r1 q1 => ⟨G1, env, rel.step s1, Post.bind anti_RV q1 fun db y H2 G2 s2 r2 q2 => ?_⟩⟩
    cases da with
    | int i => cases db with
      | int j => exact ⟨i, j, by rw [RP.int r1, RP.int r2], post_val s2.gh q2 (.int _)⟩
      | _ => exact False.elim q2
    | _ => cases db <;> exact False.elim q2
def tyId : Ty → String
  | .int => "int"
  | .bool => "bool"
  | .str => "str"
  | .lst => "list"
  | .tup => "tuple"
/-- the type of data, and whether it is of another -/
theorem isTy_of {P : Par} {H' G H : Hp} {v : V} {d : D} {t : Ty} {k : Bool} (s : Same G H) (r : RP P H' G H v d) (e : isTy d t = .ok k) : ∃ n : String, TyX P.K H v (.type n) ∧ kitB n (tyId t) = some k := by
  cases d with
  | non => refine ⟨"NoneType", ?_, ?_⟩
           · rw [r.non]; exact .base .non
           · cases t <;> cases e <;> decide +kernel
  | bl b => refine ⟨"bool", ?_, ?_⟩
            · rw [r.bl]; exact .base (.bl b)
            · cases t <;> cases e <;> decide +kernel
  | int b => refine ⟨"int", ?_, ?_⟩
             · rw [r.int]; exact .base (.int b)
             · cases t <;> cases e <;> decide +kernel
  | str b => refine ⟨"str", ?_, ?_⟩
             · rw [r.str]; exact .base (.str b)
             · cases t <;> cases e <;> decide +kernel
  | lst ds =>
    obtain ⟨a, vs, rfl, h, rr⟩ := r.lst s
    refine ⟨"list", ?_, ?_⟩
    · rcases h with (h | ⟨o, h⟩) | ⟨o, its, n, h1, h2, _⟩
      · exact .base (.lst h)
      · exact .base (.frz h)
      · exact .kList h1 h2
    · cases t <;> cases e <;> decide +kernel
  | tup ds =>
    obtain ⟨a, vs, rfl, h, rr⟩ := r.tup
    refine ⟨"tuple", .base (.tup (s _ _ h)), ?_⟩
    cases t <;> cases e <;> decide +kernel
  | ins _ _ => cases e
theorem s_isi {t : Ty} {p q : Pos} (hg : Gl X "isinstance") (hm : X.mg "isinstance" = none) (hg2 : Gl X (tyName t)) (hm2 : X.mg (tyName t) = none) (ha : SP' X T ca xa cx G0 H0 W a fa) (hn : noStar a = true) :
    SE X T ca xa cx G0 H0 W (.Call (.Name "isinstance" p) [a, .Name (tyName t) q] [] pos) fun env => (fa env).bind fun x => ofB (isTy x t) := by
  have st := star_cons (es := [.Name (tyName t) q]) (env := X.env) hn
  have pt : PE X (.Name (tyName t) q) (tC (.ty (tyId t))) := by
    cases t <;> exact pe_bltn hg2 hm2 (by decide +kernel) (show RelV (.ty _) (.type _) from rfl)
  refine (pe_callB call_isi hg hm (by decide +kernel) (pa_cons ha (pa_cons pt pa_nil) st) (he := st)).imp fun σ H Q ⟨G, env, rel, p⟩ => ⟨G, env, rel, Post.bind anti_RV p fun da x H1 G1 s1 r1 q1 => ?_⟩
  cases e : isTy da t with
  | ok k =>
    rw [e] at q1
    obtain ⟨n, h1, h2⟩ := isTy_of s1.gh r1 e
    exact ⟨x, .ty (tyId t), _, _, k, rfl, .ty _, h1, kit_ty h2, post_val s1.gh q1 (.bl k)⟩
  | err k fs => cases da <;> cases t <;> cases e
  | bad => rw [e] at q1; exact False.elim q1

/-! ### methods of texts -/
def m1Name : M1 → Str
  | .join => "join"
  | .split => "split"
  | .part => "partition"
  | .ends => "endswith"
  | .rmpre => "removeprefix"
  | .zfill => "zfill"
  | .count => "count"
def RMt (P : Par) (g : Str → D → Res Vl) (r : V → List V → Hp → VK → Prop) : Prop := ∀ (W : WX) (σ : St) (G H : Hp) (z : Str) (y : V) (d : D) (Q : VK), Same G H → RP P H G H y d → Post P W σ G H (RV P) (g z d) Q → r (.str z) [y] H Q
theorem s_m {r : V → List V → Hp → VK → Prop} {g : Str → D → Res Vl} {e : Expr} (hp : RMt (PX X T ca xa) g r) (ho : SE X T ca xa cx G0 H0 W b f) (ha : SP' X T ca xa cx G0 H0 W a fa) (he : ∀ {to te : TE}, PE X b to → PE X a te → PE X e (tM1 r to te)) :
    SE X T ca xa cx G0 H0 W e fun env => (f env).bind fun x => (match x.d with
      | .str z => (fa env).bind fun y => g z y
      | _ => .bad) :=
  (he ho ha).imp fun σ H Q ⟨G, env, rel, p⟩ => ⟨G, env, rel, Post.bind anti_RV p fun rd x H1 G1 s1 r1 q1 => by
    cases rd with
    | own ds => exact False.elim q1
    | val d =>
      cases d with
      | str z =>
        have r1 : Rep _ G1 x (.str z) := r1
        cases r1
        exact ⟨⟨z, rfl⟩, G1, env, rel.step s1, Post.bind anti_RV q1 fun db y H2 G2 s2 r2 q2 => hp W σ G2 H2 z y db Q s2.gh r2 q2⟩
      | _ => exact False.elim q1⟩
theorem s_m1 {m : M1} {apos : Pos} (ho : SE X T ca xa cx G0 H0 W b f) (ha : SP' X T ca xa cx G0 H0 W a fa) (hn : noStar a = true) (hb : noSup b = true) (hl : (apos.endLine == pos.line) = true) :
    SE X T ca xa cx G0 H0 W (.Call (.Attribute b (m1Name m) apos) [a] [] pos) fun env => (f env).bind fun x => (match x.d with
      | .str z => (fa env).bind fun y => m1 m z y
      | _ => .bad) := by
  have st : starEach [a] X.env = [(false, eval a X.env)] := star_cons (es := []) hn
  cases m with
  | join =>
    refine s_m (g := m1 .join) (r := _) ?_ ho ha fun p q => pe_join p q st (base_ok hb) hl
    intro W σ G H z y d Q s r p
    cases d with
    | lst ds =>
      obtain ⟨a, vs, rfl, h, rr⟩ := r.lst s
      simp only [m1] at p
      split at p
      · rename_i zs e
        split at p
        · rename_i hz
          obtain ⟨e1, _⟩ := rr.strsOf e
          subst e1
          exact ⟨z, a, zs, rfl, rfl, .inl h, hz, post_val s p (.str _)⟩
        · exact False.elim p
      · exact False.elim p
    | _ => exact False.elim p
  | split =>
    refine s_m (g := m1 .split) (r := _) ?_ ho ha fun p q => pe_split p q st (base_ok hb) hl
    intro W σ G H z y d Q s r p
    cases d with
    | str w =>
      simp only [m1] at p
      split at p
      · rename_i hz
        exact ⟨z, w, rfl, by rw [r.str], hz.1, by rw [sizeLine_eq]; exact hz.2, fun q hq => post_own s p (by rw [show List.map D.str (Txt.split z w) = (Txt.split z w).map D.str from rfl]; exact Reps.strs _) hq⟩
      · exact False.elim p
    | _ => exact False.elim p
  | part =>
    refine s_m (g := m1 .part) (r := _) ?_ ho ha fun p q => pe_partition p q st (base_ok hb) hl
    intro W σ G H z y d Q s r p
    cases d with
    | str w =>
      simp only [m1] at p
      split at p
      · rename_i hz
        exact ⟨z, w, rfl, by rw [r.str], hz.1, by rw [sizeLine_eq]; exact hz.2, fun q hq => post_tup s p (.cons (.str _) (.cons (.str _) (.cons (.str _) .nil))) hq⟩
      · exact False.elim p
    | _ => exact False.elim p
  | ends =>
    refine s_m (g := m1 .ends) (r := _) ?_ ho ha fun p q => pe_m1 F.slot_str_endswith F.type_str_endswith mt_endswith p q st (base_ok hb) hl
    intro W σ G H z y d Q s r p
    cases d with
    | str w => exact ⟨z, w, rfl, by rw [r.str], post_val s p (.bl _)⟩
    | _ => exact False.elim p
  | count =>
    refine s_m (g := m1 .count) (r := _) ?_ ho ha fun p q => pe_m1 F.slot_str_count F.type_str_count mt_count p q st (base_ok hb) hl
    intro W σ G H z y d Q s r p
    cases d with
    | str w => exact ⟨z, w, rfl, by rw [r.str], post_val s p (.int _)⟩
    | _ => exact False.elim p
  | rmpre =>
    refine s_m (g := m1 .rmpre) (r := _) ?_ ho ha fun p q => pe_m1 F.slot_str_removeprefix F.type_str_removeprefix mt_removeprefix p q st (base_ok hb) hl
    intro W σ G H z y d Q s r p
    cases d with
    | str w =>
      simp only [m1] at p
      split at p
      · rename_i hz
        exact ⟨z, w, rfl, by rw [r.str], by rw [sizeLine_eq]; exact hz, post_val s p (.str _)⟩
      · exact False.elim p
    | _ => exact False.elim p
  | zfill =>
    refine s_m (g := m1 .zfill) (r := _) ?_ ho ha fun p q => pe_m1 F.slot_str_zfill F.type_str_zfill mt_zfill p q st (base_ok hb) hl
    intro W σ G H z y d Q s r p
    cases d with
    | int w =>
      simp only [m1] at p
      split at p
      · rename_i hz
        exact ⟨z, w, rfl, by rw [r.int], hz, post_val s p (.str _)⟩
      · exact False.elim p
    | _ => exact False.elim p
end
end PL

set_option linter.all false
set_option Elab.async false
set_option maxRecDepth 100000
set_option maxHeartbeats 1000000
/-! Soundness, part 6: fields, calls, methods, making. -/
namespace PL
open PySem PySem.Spec PyProof.Rows L2
section
variable {X : Cx} {T : Tab} {ca xa : Nat → Addr} {cx : Hand} {G0 H0 : Hp} {W : WX} {a b c d o : Expr} {fa fb fc fd : Env → Res D} {f g : Env → Res Vl} {pos : Pos}

theorem s_peekQ {i : Nat} {x : Str} {pos : Pos} (hN : X.N[i]? = some x) (hv : Vis X.env.scope x) (hd : (x == ("__debug__" : Str)) = false) (hcd : (x == ("__classdict__" : Str)) = false) : SQ X T ca xa cx G0 H0 W (.Name x pos) fun env => peekT env i :=
  (pe_var hN hv hd hcd).imp fun σ H Q ⟨G, env, rel, p⟩ => by
    dsimp only [peekT] at p
    cases e : env[i]? with
    | none => rw [e] at p; exact p.elim
    | some s =>
      have q := rel.sl i s e
      rw [e] at p
      cases s with
      | val d =>
        obtain ⟨v, e2, r⟩ := q
        exact ⟨v, e2, p v H G (Step.refl rel.gh) (.inl r)⟩
      | own ds =>
        obtain ⟨a, vs, e2, h1, _, _, r⟩ := q
        exact ⟨_, e2, p _ H G (Step.refl rel.gh) (.inr ⟨a, vs, ds, rfl, rfl, h1, r⟩)⟩
      | _ => exact p.elim

/-! ### fields -/
structure ClsOk (X : Cx) (T : Tab) (ca : Nat → Addr) (c : Nat) (ci : ClI) : Prop where
  at_ : T.cls[c]? = some ci
  cls : Cls X.K (ca c)
  no : ∀ n ∈ ci.fields, NoAttr X.K (ca c) n
theorem post_ins {G H : Hp} {v : V} {r : Vl} {k : Nat} {fs : List D} (h : RV (PX X T ca xa) H0 G H v r) (e : r.d = .ins k fs) : ∃ p dx ci l vs, v = .ref p ∧ G p = some (.ins (ca k) dx l) ∧ T.cls[k]? = some ci ∧ InsOk ci.fields l vs ∧ Reps (PX X T ca xa) G vs fs := by
  cases r with
  | own ds => cases e
  | val d =>
    have e : d = .ins k fs := e
    subst e
    cases (show Rep _ G v (.ins k fs) from h) with
    | ins h hc hi r => exact ⟨_, _, _, _, _, rfl, h, hc, hi, r⟩
theorem s_fld {k j : Nat} {ci : ClI} {n : Str} (ho : SE X T ca xa cx G0 H0 W o f) (hs : noSup o = true) (C : ClsOk X T ca k ci) (hn : ci.fields[j]? = some n) :
    SE X T ca xa cx G0 H0 W (.Attribute o n pos) fun env => (f env).bind fun x => (match x.d with
    | .ins k' fs => if k' = k then (match fs[j]? with
      | some d => .ok (.val d)
      | none => .bad) else .bad
    | _ => .bad) :=
  (pe_fld ho (base_ok hs)).imp fun σ H Q ⟨G, env, rel, p⟩ => ⟨G, env, rel, Post.bind anti_RV p fun r x H1 G1 s1 r1 q1 => by
    split at q1
    · rename_i k' fs e
      split at q1
      · rename_i ek
        subst ek
        split at q1
        · rename_i d ed
          obtain ⟨p, dx, ci', l, vs, rfl, h1, h2, h3, h4⟩ := post_ins r1 e
          rw [C.at_] at h2
          obtain rfl := Option.some.inj h2
          obtain ⟨v, e3, h5⟩ := h4.get ed
          exact ⟨p, ca k', dx, l, v, rfl, s1.gh _ _ h1, C.cls, C.no n (List.mem_of_getElem? hn), h3.at_ j n v hn e3, post_val s1.gh q1 h5⟩
        · exact False.elim q1
      · exact False.elim q1
    · exact False.elim q1⟩

/-! ### what a def promises -/
def spF (P : Par) (call : List D → Res Vl) (pm : List Bool) (n : Nat) : Sp := fun vs H Q E => pm.length = n ∧ ∃ G ds, Same G H ∧ RAL P G H pm vs ds ∧ Post P (fun c d _ H' => E c d H') [] G H (RV P) (call ds) Q
/-- an __init__ -/
def spI (P : Par) (c : Nat) (call : List D → Res Vl) (pm : List Bool) (n : Nat) : Sp := fun vs H Q E => pm.length + 1 = n ∧ ∃ G H1 ds x dx vs', Same G H1 ∧ RAL P G H1 pm vs' ds ∧ H1 x = none ∧ H1 dx = none ∧ dx ≠ x ∧ vs = .ref x :: vs' ∧ H = upd (upd H1 dx (.own x)) x (.ins (P.ca c) dx []) ∧
  Post P (fun c d _ H' => E c d H') [] G H1 (RV P) (call ds) (fun v H' => v = .ref x → Q .non H')
theorem spF_len {P : Par} {call : List D → Res Vl} {pm : List Bool} {n : Nat} : ∀ vs H Q E, spF P call pm n vs H Q E → vs.length = n := fun vs H Q E ⟨e, G, ds, _, r, _⟩ => r.len.1.trans e
theorem spI_len {P : Par} {c : Nat} {call : List D → Res Vl} {pm : List Bool} {n : Nat} : ∀ vs H Q E, spI P c call pm n vs H Q E → vs.length = n := fun vs H Q E ⟨e, G, H1, ds, x, dx, vs', _, r, _, _, _, e2, _⟩ => by
  rw [e2, List.length_cons, r.len.1]
  exact e
theorem post_E {P : Par} {σ : St} {G H : Hp} {r : Res Vl} {Q : VK} (h : Post P W σ G H (RV P) r Q) : Post P (fun c d _ H' => WE W σ c d H') [] G H (RV P) r Q := by
  cases r with
  | ok a => exact h
  | err k fs => exact h
  | bad => exact h

/-! ### calls -/
theorem pe_call0S {CX : CXT} {k : Nat} {f : Addr} {fd : FuncData} {ps : List Str} {sp : Sp} {E : St → XK} {x : Str} {p pos : Pos} (F : FnOk X.prog X.w X.K X.mg X.base CX k f fd ps sp) (hr : Room k X.A) (hg : Gl X x) (hm : X.mg x = some (.ref f)) (hk : PySem.W.keepIn X.K (.ref f) = true) (hb : Binds X.K fd ps []) (hx : ∀ σ, PassesAt CX X σ (E σ))
    (hdb : (x == ("__debug__" : Str)) = false) : PE X (.Call (.Name x p) [] [] pos) (tCallS sp E tNil) := by
  refine ⟨fun pins s σ H Q I h => ?_⟩
  refine wpAny_Call_Name_kw (ld_glob I hg hm ?_ hdb)
  exact PySem.W.callWith_K0 I.kIn hk (run_fnS (us := []) F hr hb (hx σ) I .nil h)
/-- f(..) -/
structure FnAt (X : Cx) (T : Tab) (ca xa : Nat → Addr) (W : WX) (nm : Str) (call : List D → Res Vl) (pm : List Bool) : Prop where
  tk : Takes X W
  at_ : ∃ k f fd ps, FnOk X.prog X.w X.K X.mg X.base (L2.CX X.prog X.w) k f fd ps (spF (PX X T ca xa) call pm ps.length) ∧ Room k X.A ∧ X.mg nm = some (.ref f) ∧ PySem.W.keepIn X.K (.ref f) = true ∧ Binds X.K fd ps [] ∧ pm.length = ps.length
theorem s_call {nm : Str} {call : List D → Res Vl} {pm : List Bool} {es : List Expr} {h : Env → Res (List D)} {p : Pos} (F : FnAt X T ca xa W nm call pm) (hg : Gl X nm) (hdb : (nm == ("__debug__" : Str)) = false) (ha : SAR X T ca xa cx G0 H0 W pm es h) (hns : es.all noStar = true) (hne : es ≠ []) :
    SE X T ca xa cx G0 H0 W (.Call (.Name nm p) es [] pos) fun env => (h env).bind call := by
  obtain ⟨k, f, fd, ps, F1, hr, hm, hk, hb, hl⟩ := F.at_
  cases es with
  | nil => exact absurd rfl hne
  | cons e es =>
    simp only [List.all_cons, Bool.and_eq_true] at hns
    refine (pe_callS (E := WE W) F1 hr hg hm hk hb (fun σ => passAt F.tk σ) ha hdb (star_cons hns.1) (star_any hns.2)).imp fun σ H Q ⟨G, env, rel, p⟩ => ?_
    exact ⟨G, env, rel, Post.bind anti_RV p fun ds vs H1 G1 s1 r1 q1 => ⟨hl, G1, ds, s1.gh, r1, post_E q1⟩⟩
theorem s_call0 {nm : Str} {call : List D → Res Vl} {p : Pos} (F : FnAt X T ca xa W nm call []) (hg : Gl X nm) (hdb : (nm == ("__debug__" : Str)) = false) :
    SE X T ca xa cx G0 H0 W (.Call (.Name nm p) [] [] pos) fun env => call [] := by
  obtain ⟨k, f, fd, ps, F1, hr, hm, hk, hb, hl⟩ := F.at_
  refine (pe_call0S (E := WE W) F1 hr hg hm hk hb (fun σ => passAt F.tk σ) hdb).imp fun σ H Q ⟨G, env, rel, p⟩ => ?_
  exact ⟨hl, G, [], rel.gh, .nil, post_E p⟩

/-! ### methods -/
theorem few_ok {es : List Expr} {pos : Pos} {env : PySem.Env} (hns : es.all noStar = true) (hl : es.length < 29) : methodCallForm (es.length + 0) (backTo pos (starEach es env)) (backToKw pos (keywordEach [] env)) = true := by
  have h1 : (backTo pos (starEach es env)).all (fun a => !a.1) = true := by
    have := star_any (pos := pos) (env := env) hns
    rw [List.any_eq_false] at this
    exact List.all_eq_true.mpr fun x hx => by simpa using this x hx
  unfold methodCallForm
  rw [h1]
  simp [keywordEach, backToKw]
  omega
theorem mcall_eq {m : Str} {apos pos : Pos} {es : List Expr} {env : PySem.Env} (hs : noSup o = true) (hp : (apos.endLine == pos.line) = true) (hns : es.all noStar = true) (hl : es.length < 29) :
    eval (.Call (.Attribute o m apos) es [] pos) env = (do
      let ov ← eval o env
      standAt apos.atName
      let (f, first) ← holding [ov] (getMethod ov m (do return (← importBound o env).getD true))
      callWith pos f first (backTo pos (starEach es env)) (backToKw pos (keywordEach [] env))) := by
  have e1 : eval (.Call (.Attribute o m apos) es [] pos) env = (do
    let ov ← attributeBase o m env (eval o env)
    standAt apos.atName
    methodCall o m apos pos env ov (es.length + 0) (backTo pos (starEach es env)) (backToKw pos (keywordEach [] env))) := rfl
  rw [e1, base_ok hs]
  have e2 : ∀ ov, methodCall o m apos pos env ov (es.length + 0) (backTo pos (starEach es env)) (backToKw pos (keywordEach [] env)) = (do
      let (f, first) ← holding [ov] (getMethod ov m (do return (← importBound o env).getD true))
      callWith pos f first (backTo pos (starEach es env)) (backToKw pos (keywordEach [] env))) := fun ov => by
    unfold methodCall
    rw [few_ok hns hl]
    have e3 : methodCallPos true o env apos pos = pure pos := by
      unfold methodCallPos
      rw [hp]
      rfl
    rw [e3]
    simp only [calleeOf, if_true, pure_bind]
  simp only [e2]
structure MtAt (X : Cx) (T : Tab) (ca xa : Nat → Addr) (W : WX) (c : Nat) (m : Str) (call : List D → Res Vl) (pm : List Bool) : Prop where
  tk : Takes X W
  at_ : ∃ ci k f fd ps, T.cls[c]? = some ci ∧ m ∉ ci.fields ∧ Cls X.K (ca c) ∧ Meth X.K (ca c) m f ∧ FnOk X.prog X.w X.K X.mg X.base (L2.CX X.prog X.w) k f fd ps (spF (PX X T ca xa) call (false :: pm) ps.length) ∧ Room k X.A ∧ Binds X.K fd ps [] ∧ pm.length + 1 = ps.length
theorem pe_methS {CX : CXT} {C : Addr} {k : Nat} {g : Addr} {fd : FuncData} {ps : List Str} {sp : Sp} {E : St → XK} {m : Str} {apos pos : Pos} {es : List Expr} {t : TA} {ta : TE} (he : PE X o ta) (c : Cls X.K C) (hm : Meth X.K C m g) (F : FnOk X.prog X.w X.K X.mg X.base CX k g fd ps sp) (hr : Room k X.A) (hb : Binds X.K fd ps []) (hx : ∀ σ, PassesAt CX X σ (E σ))
    (ha : PA X es t) (hns : es.all noStar = true) (hl : es.length < 29) (hs : noSup o = true) (hp : (apos.endLine == pos.line) = true) (h0 : es = [] → ∀ σ H Q, t σ H Q → Q [] H) :
    PE X (.Call (.Attribute o m apos) es [] pos) (fun σ H Q => ta σ H fun x H1 => ∃ a dx fs, x = .ref a ∧ H1 a = some (.ins C dx fs) ∧ fs.lookup m = none ∧ t σ H1 fun vs H2 => sp (x :: vs) H2 Q (E σ)) := by
  refine ⟨fun pins s σ H Q I h => ?_⟩
  refine PySem.W.methodCall_KW (thn (he.run pins s σ H _ I h) fun u s1 ⟨x, H1, I1, rx, a, dx, fs, ex, ea, l, q⟩ => ?_) (mcall_eq hs hp hns hl)
  subst ex
  obtain rfl : u = Value.ref a := rx
  refine getmeth_ok I1 ea c hm l ?_
  cases es with
  | nil => exact PySem.W.callWith_K0 (first := [.ref a]) I1.kIn hm.kp (run_fnS (us := [.ref a]) (vs := [.ref a]) F hr hb (hx σ) I1 (.cons rfl .nil) (h0 rfl _ _ _ q))
  | cons e es =>
    simp only [List.all_cons, Bool.and_eq_true] at hns
    refine PySem.W.callWith_K (first := [.ref a]) (h₀ := X.base) I1.ok.mod.kin hm.kp (thn (ha.run pos pins s1 σ H1 _ I1 q) fun us s2 ⟨vs, H2, I2, r, q2⟩ => ⟨I2.kIn, ?_⟩) (star_cons hns.1) (star_any hns.2)
    exact run_fnS (us := .ref a :: us) (vs := .ref a :: vs) F hr hb (hx σ) I2 (.cons rfl r) q2
theorem s_mth {c : Nat} {m : Str} {call : List D → Res Vl} {pm : List Bool} {es : List Expr} {h : Env → Res (List D)} {apos : Pos} (F : MtAt X T ca xa W c m call pm) (ho : SE X T ca xa cx G0 H0 W o f) (ha : SAR X T ca xa cx G0 H0 W pm es h) (hns : es.all noStar = true) (hl : es.length < 29) (hs : noSup o = true) (hp : (apos.endLine == pos.line) = true)
    (h0 : es = [] → pm = [] ∧ ∀ env, h env = .ok []) :
    SE X T ca xa cx G0 H0 W (.Call (.Attribute o m apos) es [] pos) fun env => (f env).bind fun x => (match x.d with
    | .ins k' fs => if k' = c then (h env).bind fun ds => call (.ins c fs :: ds) else .bad
    | _ => .bad) := by
  obtain ⟨ci, k, g, fd, ps, hc, hno, hcl, hm, F1, hr, hb, hlen⟩ := F.at_
  have main : PE X (.Call (.Attribute o m apos) es [] pos) (fun σ H Q => tR (PX X T ca xa) cx G0 H0 W (RV (PX X T ca xa)) f σ H fun x H1 => ∃ a dx fs, x = .ref a ∧ H1 a = some (.ins (ca c) dx fs) ∧ fs.lookup m = none ∧
      tR (PX X T ca xa) cx G0 H0 W (RA (PX X T ca xa) pm) h σ H1 fun vs H2 => spF (PX X T ca xa) call (false :: pm) ps.length (x :: vs) H2 Q (WE W σ)) :=
    pe_methS (E := WE W) ho hcl hm F1 hr hb (fun σ => passAt F.tk σ) ha hns hl hs hp fun e σ H Q ⟨G, env, rel, q⟩ => by
      obtain ⟨e1, e2⟩ := h0 e
      subst e1
      rw [e2 env] at q
      exact q [] H G (Step.refl rel.gh) .nil
  refine main.imp fun σ H Q ⟨G, env, rel, p⟩ => ⟨G, env, rel, Post.bind anti_RV p fun r x H1 G1 s1 r1 q1 => ?_⟩
  split at q1
  · rename_i k' fs e
    split at q1
    · rename_i ek
      subst ek
      obtain ⟨p, dx, ci', l, vs, rfl, h1, h2, h3, h4⟩ := post_ins r1 e
      rw [hc] at h2
      obtain rfl := Option.some.inj h2
      refine ⟨p, dx, l, rfl, s1.gh _ _ h1, h3.no m hno, G1, env, rel.step s1, Post.bind anti_RV q1 fun ds vs2 H2 G2 s2 r2 q2 => ?_⟩
      exact ⟨by simpa using hlen, G2, _, s2.gh, .stay (Rep.ins (s2.gg _ _ h1) hc h3 (h4.mono s2.gg)) r2, post_E q2⟩
    · exact False.elim q1
  · exact False.elim q1

/-! ### making -/
theorem run_makeS {CX : CXT} {C f : Addr} {k : Nat} {fd : FuncData} {ps : List Str} {sp : Sp} {E : XK} {pins : List (Addr × Obj)} {σ : St} {H : Hp} {s : Shared} {Q : VK} {us : List Value} {vs : List V} (M : Mk X.K C f) (F : FnOk X.prog X.w X.K X.mg X.base CX k f fd ps sp) (hr : Room (k + 1) X.A) (hb : Binds X.K fd ps [])
    (hx : ∀ (pins : List (Addr × Obj)) (H : Hp) (s : Shared) (e : Value) (s' : Shared), Inv X pins σ H s → CX X.stack H s E e s' → X.xe e s') (I : Inv X pins σ H s) (r : Vals vs us)
    (h : ∀ x dx, H x = none → H dx = none → dx ≠ x → sp (.ref x :: vs) (upd (upd H dx (.own x)) x (.ins C dx [])) (fun v H2 => v = .non ∧ Q (.ref x) H2) E) :
    wpAny (model X.prog X.w) X.A (call (.ref C) us) (EP X pins σ Q) X.xe s := by
  have hq := h (s.heap.objs.size + 1) s.heap.objs.size (I.hok.fresh (Nat.le_succ _)) (I.hok.fresh (Nat.le_refl _)) (Nat.ne_of_lt (Nat.lt_succ_self _))
  have I2 := Inv.made (C := C) I
  have r2 : Vals (V.ref (s.heap.objs.size + 1) :: vs) (Value.ref (s.heap.objs.size + 1) :: us) := .cons rfl r
  have hl : ((Value.ref (s.heap.objs.size + 1) :: us) ++ []).length = ps.length := by
    have e := r2.length
    rw [F.len _ _ _ _ hq] at e
    rw [List.append_nil]
    exact e.symm
  have b := hb _ (Value.ref (s.heap.objs.size + 1) :: us) I2.kIn hl
  rw [List.append_nil] at b
  refine wpAny_call (make_map (f := f) I.kIn M.makes M.init (beq_iff_eq.mp M.fn) (codeAny_mono (F.run _ X.stack _ _ ⟨Value.ref (s.heap.objs.size + 1) :: us, []⟩ (Value.ref (s.heap.objs.size + 1) :: us) _ _ E (hr.make C us [])
    (I2.env0.make C us []) b r2 hq) fun r s' hq' => ?_))
  cases r with
  | error e => exact hx pins _ _ e s' I2 hq'
  | ok fl =>
    cases fl with
    | ret u =>
      obtain ⟨v, H', I3, rv, ev, q3⟩ := I2.after hq'
      subst ev
      exact ⟨rv, ⟨V.ref (s.heap.objs.size + 1), H', I3, rfl, q3⟩⟩
    | next => exact False.elim hq'
    | brk => exact False.elim hq'
    | cont => exact False.elim hq'
/-- C(..) -/
structure MkAt (X : Cx) (T : Tab) (ca xa : Nat → Addr) (W : WX) (nm : Str) (c : Nat) (call : List D → Res Vl) (pm : List Bool) : Prop where
  tk : Takes X W
  at_ : ∃ k f fd ps, Mk X.K (ca c) f ∧ X.mg nm = some (.ref (ca c)) ∧ FnOk X.prog X.w X.K X.mg X.base (L2.CX X.prog X.w) k f fd ps (spI (PX X T ca xa) c call pm ps.length) ∧ Room (k + 1) X.A ∧ Binds X.K fd ps [] ∧ pm.length + 1 = ps.length
theorem s_mk {nm : Str} {c : Nat} {call : List D → Res Vl} {pm : List Bool} {es : List Expr} {h : Env → Res (List D)} {p : Pos} (F : MkAt X T ca xa W nm c call pm) (hg : Gl X nm) (hdb : (nm == ("__debug__" : Str)) = false) (ha : SAR X T ca xa cx G0 H0 W pm es h) (hns : es.all noStar = true) (hne : es ≠ []) :
    SE X T ca xa cx G0 H0 W (.Call (.Name nm p) es [] pos) fun env => (h env).bind call := by
  obtain ⟨k, f, fd, ps, M, hm, F1, hr, hb, hl⟩ := F.at_
  cases es with
  | nil => exact absurd rfl hne
  | cons e es =>
    simp only [List.all_cons, Bool.and_eq_true] at hns
    have main : PE X (.Call (.Name nm p) (e :: es) [] pos) (fun σ H Q => tR (PX X T ca xa) cx G0 H0 W (RA (PX X T ca xa) pm) h σ H fun vs H1 => ∀ x dx, H1 x = none → H1 dx = none → dx ≠ x →
        spI (PX X T ca xa) c call pm ps.length (.ref x :: vs) (upd (upd H1 dx (.own x)) x (.ins (ca c) dx [])) (fun v H2 => v = .non ∧ Q (.ref x) H2) (WE W σ)) := by
      refine ⟨fun pins s σ H Q I h => ?_⟩
      refine wpAny_Call_Name_kw (ld_glob I hg hm ?_ hdb)
      refine PySem.W.callWith_K (h₀ := X.base) I.ok.mod.kin M.kp (thn (ha.run pos pins s σ H _ I h) fun us s1 ⟨vs, H1, I1, r, q⟩ => ⟨I1.kIn, ?_⟩) (star_cons hns.1) (star_any hns.2)
      exact run_makeS M F1 hr hb (fun pins H s e s' I hc => passAt F.tk σ pins H s e s' I hc) I1 r q
    refine main.imp fun σ H Q ⟨G, env, rel, p⟩ => ⟨G, env, rel, Post.bind anti_RV p fun ds vs H1 G1 s1 r1 q1 => fun x dx hx hdx hne => ?_⟩
    exact ⟨hl, G1, H1, ds, x, dx, vs, s1.gh, r1, hx, hdx, hne, rfl, rfl, Post.imp (post_E q1) fun _ v H' G' _ _ _ q e => ⟨rfl, by rw [← e]; exact q⟩⟩
end
end PL

set_option linter.all false
set_option Elab.async false
set_option maxRecDepth 100000
set_option maxHeartbeats 1000000
/-! Soundness, part 7: statements. -/
namespace PL
open PySem PySem.Spec PyProof.Rows L2

def OutP (P : Par) (cx : Hand) (G0 H0 : Hp) (W : WX) (D : Ends) (o : Out) : Prop := match o with
  | .nx e => ∀ σ H G, Rel P cx G0 H0 G H σ e → D.nx σ H
  | .ret r => ∀ v H G, Step G0 H0 G H → RV P H0 G H v r → D.rt v H
  | .ct e => ∀ σ H G, Rel P cx G0 H0 G H σ e → D.ct σ H
  | .err k fs e => ∀ cls d σ H G, Rel P cx G0 H0 G H σ e → ErrRep P G H cls d k fs → W cls d σ H
  | .bad => False
def sR (P : Par) (cx : Hand) (G0 H0 : Hp) (W : WX) (f : Env → Out) : TS := fun D σ H => ∃ G env, Rel P cx G0 H0 G H σ env ∧ OutP P cx G0 H0 W D (f env)
theorem Rel.toStep {P : Par} {cx : Hand} {G0 H0 G H : Hp} {σ : St} {env : Env} (r : Rel P cx G0 H0 G H σ env) : Step G0 H0 G H := ⟨r.hh, r.gg, r.gh, r.nw⟩
section
variable {P : Par} {cx : Hand} {G0 H0 G H : Hp} {W : WX} {σ : St} {env : Env}
/-- go on from an expression -/
theorem to_bind {α β : Type} {R : Hp → Hp → Hp → β → α → Prop} {r : Res α} {k : α → Out} {D : Ends} {Q1 : β → Hp → Prop} (rel : Rel P cx G0 H0 G H σ env) (h : OutP P cx G0 H0 W D (r.to env k))
    (hk : ∀ a x H1 G1, Step G H G1 H1 → R H G1 H1 x a → OutP P cx G0 H0 W D (k a) → Q1 x H1) : Post P W σ G H R r Q1 := by
  cases r with
  | ok a => exact fun x H' G' s q => hk a x H' G' s q h
  | err c fs => exact fun cls d H' G' s q => h cls d σ H' G' (rel.step s) q
  | bad => exact h
theorem ErrRep.grow {P : Par} {G H G' : Hp} {cls : Value} {d : Option Addr} {k : Nat} {fs : List D} (h : ErrRep P G H cls d k fs) (s : Same G G') : ErrRep P G' H cls d k fs := by
  obtain ⟨xi, h1, h2, h3⟩ := h
  refine ⟨xi, h1, h2, ?_⟩
  rcases h3 with h3 | ⟨dd, fv, vs, e1, e2, e3, e4⟩
  · exact .inl h3
  · exact .inr ⟨dd, fv, vs, e1, e2, e3.mono s, e4⟩
/-- our own list is let stand still -/
theorem Rel.frz1 (rel : Rel P cx G0 H0 G H σ env) (i : Nat) : ∃ G', Same G G' ∧ Rel P cx G0 H0 G' H σ (frz1 env i) := by
  unfold PL.frz1
  split
  · rename_i ds e
    obtain ⟨p, vs, e2, h1, h2, h3, r⟩ := rel.sl i _ e
    have sg : Same G (upd G p (.lst vs)) := same_upd h2
    refine ⟨upd G p (.lst vs), sg, rel.hk, rel.hh, rel.gg.trans sg, fun b u z => ?_, fun a ha => ?_, by rw [List.length_set]; exact rel.len, fun j s ej => ?_, fun j k s t q ej ek hs ht => ?_⟩
    · by_cases q : b = p
      · subst q; rw [upd_same] at z; rw [h1]; exact z
      · rw [upd_ne q] at z; exact rel.gh _ _ z
    · have q : a ≠ p := fun z => ha (by rw [z]; exact h3)
      rw [upd_ne q]
      exact rel.nw a ha
    · by_cases ji : i = j
      · subst ji
        have hl : i < env.length := (List.getElem?_eq_some_iff.mp e).1
        rw [List.getElem?_set_self hl] at ej
        cases ej
        exact ⟨_, e2, .lst upd_same (r.mono sg)⟩
      · rw [List.getElem?_set_ne ji] at ej
        have hq := rel.sl j s ej
        have ne : ∀ q, held s σ[j]? q → q ≠ p := fun q hq z => ji (rel.dis i j _ _ p e ej e2 (z ▸ hq))
        cases s with
        | no => trivial
        | val d => obtain ⟨v, e3, r3⟩ := hq; exact ⟨v, e3, r3.mono sg⟩
        | own es => obtain ⟨q, ws, e3, k1, k2, k3, r3⟩ := hq; exact ⟨q, ws, e3, k1, by rw [upd_ne (ne q e3)]; exact k2, k3, r3.mono sg⟩
        | pk es => obtain ⟨q, ws, e3, k1, r3⟩ := hq; exact ⟨q, ws, e3, k1, r3.mono sg⟩
        | exc k fs => obtain ⟨a, cls, d, e3, e4, r3⟩ := hq; exact ⟨a, cls, d, e3, e4, r3.grow sg⟩
        | obj c es => obtain ⟨x, dx, fs, ws, ci, e3, k1, k2, k3, k4, k5, r3, ho⟩ := hq; exact ⟨x, dx, fs, ws, ci, e3, k1, by rw [upd_ne (ne x e3)]; exact k2, k3, k4, k5, r3.mono sg, ho⟩
    · have go : ∀ {j : Nat} {s : Sl}, (env.set i (.val (.lst ds)))[j]? = some s → held s σ[j]? q → env[j]? = some s := fun {j s} ej hs => by
        by_cases ji : i = j
        · subst ji
          have hl : i < env.length := (List.getElem?_eq_some_iff.mp e).1
          rw [List.getElem?_set_self hl] at ej
          cases ej
          exact False.elim hs
        · rw [List.getElem?_set_ne ji] at ej
          exact ej
      exact rel.dis j k s t q (go ej hs) (go ek ht) hs ht
  · exact ⟨G, Same.refl _, rel⟩
theorem Rel.frz (fr : List Nat) : ∀ {G : Hp} {env : Env}, Rel P cx G0 H0 G H σ env → ∃ G', Same G G' ∧ Rel P cx G0 H0 G' H σ (frz fr env) := by
  induction fr with
  | nil => exact fun {G env} rel => ⟨G, Same.refl _, rel⟩
  | cons i fr ih =>
    intro G env rel
    obtain ⟨G1, s1, r1⟩ := rel.frz1 i
    obtain ⟨G2, s2, r2⟩ := ih r1
    exact ⟨G2, s1.trans s2, r2⟩
/-- a slot takes a value -/
theorem Rel.put {G1 H1 : Hp} {i : Nat} {v : V} {x : Vl} (rel : Rel P cx G0 H0 G H σ env) (s : Step G H G1 H1) (r : RV P H G1 H1 v x) : Rel P cx G0 H0 G1 H1 (σ.set i (some v)) (env.set i x.sl) := by
  have rel1 := rel.step s
  have old : ∀ {j : Nat} {t : Sl}, i ≠ j → (env.set i x.sl)[j]? = some t → env[j]? = some t ∧ (σ.set i (some v))[j]? = σ[j]? := fun {j t} n e => by
    rw [List.getElem?_set_ne n] at e
    exact ⟨e, List.getElem?_set_ne n⟩
  have nw : ∀ {t : Sl}, (env.set i x.sl)[i]? = some t → t = x.sl ∧ (σ.set i (some v))[i]? = some (some v) := fun {t} e => by
    by_cases hl : i < env.length
    · rw [List.getElem?_set_self hl] at e
      cases e
      exact ⟨rfl, List.getElem?_set_self (by rw [rel.len]; exact hl)⟩
    · rw [List.getElem?_eq_none (by rw [List.length_set]; omega)] at e
      cases e
  refine ⟨rel1.hk, rel1.hh, rel1.gg, rel1.gh, rel1.nw, by rw [List.length_set, List.length_set]; exact rel.len, fun j t e => ?_, fun j k t u p ej ek hj hk => ?_⟩
  · by_cases q : i = j
    · subst q
      obtain ⟨e1, e2⟩ := nw e
      subst e1
      rw [e2]
      cases x with
      | val d => exact ⟨v, rfl, r⟩
      | own ds =>
        obtain ⟨p, vs, e3, h1, h2, h3, r3⟩ := r
        subst e3
        exact ⟨p, vs, rfl, h1, h2, rel.hh.free h3, r3⟩
    · obtain ⟨e1, e2⟩ := old q e
      rw [e2]
      exact rel1.sl j t e1
  · -- what is held by the new slot is new
    have fresh : ∀ {t : Sl}, (env.set i x.sl)[i]? = some t → held t (σ.set i (some v))[i]? p → H p = none := fun {t} e h => by
      obtain ⟨e1, e2⟩ := nw e
      subst e1
      rw [e2] at h
      cases x with
      | val d => exact False.elim h
      | own ds =>
        obtain ⟨p', vs, e3, h1, h2, h3, r3⟩ := r
        subst e3
        have h : some (some (V.ref p')) = some (some (V.ref p)) := h
        cases h
        exact h3
    have there : ∀ {j : Nat} {t : Sl}, env[j]? = some t → held t σ[j]? p → H p ≠ none := fun {j t} e h => by
      have q := rel.sl j t e
      cases t with
      | own ds =>
        obtain ⟨p', vs, e3, h1, _⟩ := q
        have h : σ[j]? = some (some (V.ref p)) := h
        rw [e3] at h
        cases h
        rw [h1]; simp
      | obj c ds =>
        obtain ⟨p', dx, fs, vs, ci, e3, h1, _⟩ := q
        have h : σ[j]? = some (some (V.ref p)) := h
        rw [e3] at h
        cases h
        rw [h1]; simp
      | _ => exact False.elim h
    by_cases q : i = j
    · subst q
      by_cases q2 : i = k
      · exact q2
      · obtain ⟨e1, e2⟩ := old q2 ek
        rw [e2] at hk
        exact absurd (fresh ej hj) (there e1 hk)
    · obtain ⟨e1, e2⟩ := old q ej
      rw [e2] at hj
      by_cases q2 : i = k
      · subst q2
        exact absurd (fresh ek hk) (there e1 hj)
      · obtain ⟨e3, e4⟩ := old q2 ek
        rw [e4] at hk
        exact rel.dis j k t u p e1 e3 hj hk
theorem Rel.putD {i : Nat} {v : V} {d : D} (rel : Rel P cx G0 H0 G H σ env) (r : Rep P G v d) : Rel P cx G0 H0 G H (σ.set i (some v)) (env.set i (.val d)) :=
  rel.put (x := .val d) (Step.refl rel.gh) r
/-- our own list is written -/
theorem Rel.write {i : Nat} {p : Addr} {vs ws : List V} {ds es : List D} (rel : Rel P cx G0 H0 G H σ env) (e : env[i]? = some (.own ds)) (e2 : σ[i]? = some (some (.ref p))) (hv : H p = some (.lst vs)) (r : Reps P G ws es) :
    Rel P cx G0 H0 G (upd H p (.lst ws)) σ (env.set i (.own es)) := by
  obtain ⟨p', vs', e3, h1, h2, h3, _⟩ := rel.sl i _ e
  rw [e2] at e3
  cases e3
  have keep : ∀ {b : Addr}, b ≠ p → upd H p (.lst ws) b = H b := fun n => upd_ne n
  refine ⟨rel.hk, fun b u z => ?_, rel.gg, fun b u z => ?_, rel.nw, by rw [List.length_set]; exact rel.len, fun j s ej => ?_, fun j k s t q ej ek hs ht => ?_⟩
  · rw [keep (ne_of_none z h3)]; exact rel.hh _ _ z
  · rw [keep (ne_of_none z h2)]; exact rel.gh _ _ z
  · have hl : i < env.length := (List.getElem?_eq_some_iff.mp e).1
    by_cases ji : i = j
    · subst ji
      rw [List.getElem?_set_self hl] at ej
      cases ej
      exact ⟨p, ws, e2, upd_same, h2, h3, r⟩
    · rw [List.getElem?_set_ne ji] at ej
      have hq := rel.sl j s ej
      have ne : ∀ q, held s σ[j]? q → q ≠ p := fun q hq z => ji (rel.dis i j _ _ p e ej e2 (z ▸ hq))
      cases s with
      | no => trivial
      | val d => exact hq
      | own es' => obtain ⟨q, ws', e3, k1, k2⟩ := hq; exact ⟨q, ws', e3, by rw [keep (ne q e3)]; exact k1, k2⟩
      | pk es' => exact hq
      | exc k fs =>
        obtain ⟨a, cls, d, e3, e4, xi, x1, x2, x3⟩ := hq
        refine ⟨a, cls, d, e3, e4, xi, x1, x2, ?_⟩
        rcases x3 with x3 | ⟨dd, fv, vs', y1, y2, y3⟩
        · exact .inl x3
        · refine .inr ⟨dd, fv, vs', y1, ?_, y3⟩
          rw [keep (fun z => by rw [z, hv] at y2; cases y2)]
          exact y2
      | obj c es' => obtain ⟨x, dx, fs, ws', ci, e3, k1, k2⟩ := hq; exact ⟨x, dx, fs, ws', ci, e3, by rw [keep (ne x e3)]; exact k1, k2⟩
  · have go : ∀ {j : Nat} {s : Sl}, (env.set i (.own es))[j]? = some s → held s σ[j]? q → ∃ s', env[j]? = some s' ∧ held s' σ[j]? q := fun {j s} ej hs => by
      by_cases ji : i = j
      · subst ji
        have hl : i < env.length := (List.getElem?_eq_some_iff.mp e).1
        rw [List.getElem?_set_self hl] at ej
        cases ej
        exact ⟨_, e, hs⟩
      · rw [List.getElem?_set_ne ji] at ej
        exact ⟨s, ej, hs⟩
    obtain ⟨s', ej', hs'⟩ := go ej hs
    obtain ⟨t', ek', ht'⟩ := go ek ht
    exact rel.dis j k s' t' q ej' ek' hs' ht'
end
end PL

set_option linter.all false
set_option Elab.async false
set_option maxRecDepth 100000
set_option maxHeartbeats 1000000
/-! Soundness, part 8: statements, one by one. -/
namespace PL
open PySem PySem.Spec PyProof.Rows L2
section
variable {P : Par} {cx : Hand} {G0 H0 G H : Hp} {W : WX} {σ : St} {env : Env}
theorem Rel.writeG {i : Nat} {p : Addr} {s0 s1 : Sl} {o o' : HO} (rel : Rel P cx G0 H0 G H σ env) (e : env[i]? = some s0) (hh : held s0 σ[i]? p) (hv : H p = some o) (hx : ∀ fs, o ≠ .xd fs) (h3 : H0 p = none) (h2 : G p = none)
    (r : SlR P cx H0 G (upd H p o') σ[i]? s1) (hs1 : ∀ q, held s1 σ[i]? q → q = p) : Rel P cx G0 H0 G (upd H p o') σ (env.set i s1) := by
  have keep : ∀ {b : Addr}, b ≠ p → upd H p o' b = H b := fun n => upd_ne n
  have hl : i < env.length := (List.getElem?_eq_some_iff.mp e).1
  refine ⟨rel.hk, fun b u z => ?_, rel.gg, fun b u z => ?_, rel.nw, by rw [List.length_set]; exact rel.len, fun j s ej => ?_, fun j k s t q ej ek hs ht => ?_⟩
  · rw [keep (ne_of_none z h3)]; exact rel.hh _ _ z
  · rw [keep (ne_of_none z h2)]; exact rel.gh _ _ z
  · by_cases ji : i = j
    · subst ji
      rw [List.getElem?_set_self hl] at ej
      cases ej
      exact r
    · rw [List.getElem?_set_ne ji] at ej
      have hq := rel.sl j s ej
      have ne : ∀ q, held s σ[j]? q → q ≠ p := fun q hq z => ji (rel.dis i j _ _ p e ej hh (z ▸ hq))
      cases s with
      | no => trivial
      | val d => exact hq
      | own es' => obtain ⟨q, ws', e3, k1, k2⟩ := hq; exact ⟨q, ws', e3, by rw [keep (ne q e3)]; exact k1, k2⟩
      | pk es' => exact hq
      | exc k fs =>
        obtain ⟨a, cls, d, e3, e4, xi, x1, x2, x3⟩ := hq
        refine ⟨a, cls, d, e3, e4, xi, x1, x2, ?_⟩
        rcases x3 with x3 | ⟨dd, fv, vs', y1, y2, y3⟩
        · exact .inl x3
        · refine .inr ⟨dd, fv, vs', y1, ?_, y3⟩
          rw [keep (fun z => by rw [z, hv] at y2; exact hx _ (Option.some.inj y2))]
          exact y2
      | obj c es' => obtain ⟨x, dx, fs, ws', ci, e3, k1, k2⟩ := hq; exact ⟨x, dx, fs, ws', ci, e3, by rw [keep (ne x e3)]; exact k1, k2⟩
  · have go : ∀ {j : Nat} {s : Sl}, (env.set i s1)[j]? = some s → held s σ[j]? q → ∃ s', env[j]? = some s' ∧ held s' σ[j]? q := fun {j s} ej hs => by
      by_cases ji : i = j
      · subst ji
        rw [List.getElem?_set_self hl] at ej
        cases ej
        exact ⟨_, e, by rw [hs1 _ hs]; exact hh⟩
      · rw [List.getElem?_set_ne ji] at ej
        exact ⟨s, ej, hs⟩
    obtain ⟨s', ej', hs'⟩ := go ej hs
    obtain ⟨t', ek', ht'⟩ := go ek ht
    exact rel.dis j k s' t' q ej' ek' hs' ht'
end
/-- names, as targets -/
def nameOf : Expr → Option Str
  | .Name x _ => some x
  | _ => none
theorem nameOf_some {e : Expr} {x : Str} (h : nameOf e = some x) : ∃ p, e = .Name x p := by
  cases e <;> first | (simp [nameOf] at h; done) | skip
  rename_i y p
  have h : some y = some x := h
  cases h
  exact ⟨p, rfl⟩
def namesB (N : List Str) (sc : Str → Bool) : List Expr → List Nat → Bool
  | [], [] => true
  | e :: es, i :: is => (match nameOf e with
    | some x => decide (N[i]? = some x) && (sc x && namesB N sc es is)
    | none => false)
  | _, _ => false
def noComp : Expr → Bool
  | .ListComp _ _ _ _ => false
  | .SetComp _ _ _ _ => false
  | .DictComp _ _ _ _ _ => false
  | _ => true
def noTup : Expr → Bool
  | .Tuple _ _ _ => false
  | _ => true
theorem sw_no {e : Expr} {t : Option Expr} {l : Nat} {env : PySem.Env} (h : noComp e = true) : swapsWith e t l env = pure false := by
  cases e <;> first | rfl | (simp [noComp] at h)
theorem sws_no {tg e : Expr} {l : Nat} {env : PySem.Env} (h : (match tg with | .Name _ _ => false | _ => true) = true) : swapsWithSole [tg] e l env = pure false := by
  cases tg <;> first | (simp at h; done) | (cases e <;> rfl)
theorem swst_no {tg e : Expr} {env : PySem.Env} (h : noTup e = true) : swappedStores [tg] e env = pure none := by
  cases e <;> first | (simp [noTup] at h; done) | (cases tg <;> rfl)

section
variable {X : Cx} {T : Tab} {ca xa : Nat → Addr} {cx : Hand} {G0 H0 : Hp} {W : WX} {a b c d e o : Expr} {fa fb fc fd : Env → Res D} {f g : Env → Res Vl} {pos : Pos} {fr : List Nat}
abbrev SS (X : Cx) (T : Tab) (ca xa : Nat → Addr) (cx : Hand) (G0 H0 : Hp) (W : WX) (st : Stmt) (f : Env → Out) : Prop := PS X st (sR (PX X T ca xa) cx G0 H0 W f)
abbrev SSs (X : Cx) (T : Tab) (ca xa : Nat → Addr) (cx : Hand) (G0 H0 : Hp) (W : WX) (st : List Stmt) (f : Env → Out) : Prop := PSs X st (sR (PX X T ca xa) cx G0 H0 W f)
theorem ss_nil : SSs X T ca xa cx G0 H0 W [] fun env => .nx env := pss_nil.imp fun D σ H ⟨G, env, rel, p⟩ => p σ H G rel
theorem ss_cons {st : Stmt} {rest : List Stmt} {f g : Env → Out} (h1 : SS X T ca xa cx G0 H0 W st f) (h2 : SSs X T ca xa cx G0 H0 W rest g) : SSs X T ca xa cx G0 H0 W (st :: rest) fun env => (f env).seq g :=
  (pss_cons h1 h2).imp fun D σ H ⟨G, env, rel, p⟩ => by
    refine ⟨G, env, rel, ?_⟩
    have p : OutP _ cx G0 H0 W D ((f env).seq g) := p
    cases q : f env with
    | nx e => rw [q] at p; exact fun σ' H' G' r => ⟨G', e, r, p⟩
    | ret r => rw [q] at p; exact p
    | ct e => rw [q] at p; exact p
    | err k fs e => rw [q] at p; exact p
    | bad => rw [q] at p; exact p
theorem ss_pass : SS X T ca xa cx G0 H0 W (.Pass pos) fun env => .nx env := ps_pass.imp fun D σ H ⟨G, env, rel, p⟩ => p σ H G rel
theorem ss_cont : SS X T ca xa cx G0 H0 W (.Continue pos) fun env => .ct env := ps_continue.imp fun D σ H ⟨G, env, rel, p⟩ => p σ H G rel
theorem ss_doc {x : Str} {j p1 p2} : SS X T ca xa cx G0 H0 W (.Expr (.Constant (.str x) j p1) p2) fun env => .nx env := ps_doc.imp fun D σ H ⟨G, env, rel, p⟩ => p σ H G rel
theorem ss_ret (he : SE X T ca xa cx G0 H0 W e f) : SS X T ca xa cx G0 H0 W (.Return (some e) pos) fun env => (f (frz fr env)).to (frz fr env) fun x => .ret x :=
  (ps_ret he).imp fun D σ H ⟨G, env, rel, p⟩ => by
    obtain ⟨G', s, rel'⟩ := rel.frz fr
    exact ⟨G', _, rel', to_bind rel' p fun a v H1 G1 st r q => q v H1 G1 (rel'.step st).toStep (anti_RV _ _ _ _ _ _ rel'.hh r)⟩
theorem ss_retn : SS X T ca xa cx G0 H0 W (.Return none pos) fun _ => .ret (.val .non) := ps_retN.imp fun D σ H ⟨G, env, rel, p⟩ => p .non H G rel.toStep .non
theorem ss_ex (he : SE X T ca xa cx G0 H0 W e f) (hs : noComp e = true) : SS X T ca xa cx G0 H0 W (.Expr e pos) fun env => (f (frz fr env)).to (frz fr env) fun _ => .nx (frz fr env) :=
  (ps_expr he (sw_no hs)).imp fun D σ H ⟨G, env, rel, p⟩ => by
    obtain ⟨G', s, rel'⟩ := rel.frz fr
    exact ⟨G', _, rel', to_bind rel' p fun a v H1 G1 st r q => q σ H1 G1 (rel'.step st)⟩
theorem ss_ite {t : Expr} {as bs : List Stmt} {ft : Env → Res Bool} {fa fb : Env → Out} (ht : ST X T ca xa cx G0 H0 W t ft) (ha : SSs X T ca xa cx G0 H0 W as fa) (hb : SSs X T ca xa cx G0 H0 W bs fb) :
    SS X T ca xa cx G0 H0 W (.If t as bs pos) fun env => (ft (frz fr env)).to (frz fr env) fun k => if k = true then fa (frz fr env) else fb (frz fr env) :=
  (ps_if ht ha hb).imp fun D σ H ⟨G, env, rel, p⟩ => by
    obtain ⟨G', s, rel'⟩ := rel.frz fr
    refine ⟨G', _, rel', to_bind rel' p fun k b H1 G1 st r q => ?_⟩
    have r : b = k := r
    subst r
    cases b with
    | true => rw [if_pos rfl] at q ⊢; exact ⟨G1, _, rel'.step st, q⟩
    | false => rw [if_neg Bool.false_ne_true] at q ⊢; exact ⟨G1, _, rel'.step st, q⟩
theorem ss_asg {i : Nat} {x : Str} {p1 : Pos} (hN : X.N.Nodup) (hi : X.N[i]? = some x) (hx : Loc X.env.scope x) (hf : X.fn x = true ∨ X.env.scope.names.lookup x = some .local) (he : SE X T ca xa cx G0 H0 W e f) (hs : swapsWith e (some (.Name x p1)) pos.line X.env = pure false) :
    SS X T ca xa cx G0 H0 W (.Assign [.Name x p1] e pos) fun env => (f (frz fr env)).to (frz fr env) fun x => .nx ((frz fr env).set i x.sl) :=
  (ps_set hN hi hx he hs hf).imp fun D σ H ⟨G, env, rel, p⟩ => by
    obtain ⟨G', s, rel'⟩ := rel.frz fr
    exact ⟨G', _, rel', to_bind rel' p fun a v H1 G1 st r q => q _ _ _ (rel'.put st r)⟩

/-! ### several names -/
def gNames (is : List Nat) : TGs := fun vs σ H Q => vs.length = is.length ∧ Q ((is.zip vs).foldl (fun σ p => σ.set p.1 (some p.2)) σ) H
/-- names that may be stored -/
def StB (X : Cx) (stb : Str → Bool) : Prop := ∀ x, stb x = true → Loc X.env.scope x ∧ (X.fn x = true ∨ X.env.scope.names.lookup x = some .local)
theorem pgs_names {stb : Str → Bool} (hst : StB X stb) (hN : X.N.Nodup) : ∀ {es : List Expr} {is : List Nat}, namesB X.N stb es is = true → PGs X es (gNames is)
  | [], [], _ => ⟨fun pins s σ H vs us Q I r h => by
      obtain ⟨h1, h2⟩ := h
      have e : vs = [] := List.length_eq_zero_iff.mp h1
      subst e
      exact pgs_nil.run pins s σ H [] us Q I r ⟨rfl, h2⟩⟩
  | e :: es, i :: is, h => by
    simp only [namesB] at h
    split at h
    · rename_i x ex
      obtain ⟨p, rfl⟩ := nameOf_some ex
      simp only [Bool.and_eq_true, decide_eq_true_eq] at h
      obtain ⟨h1, h2, h3⟩ := h
      have q := pgs_cons (pg_name (pos := p) hN h1 (hst x h2).1 (hst x h2).2) (pgs_names hst hN h3)
      refine ⟨fun pins s σ H vs us Q I r hh => q.run pins s σ H vs us Q I r ?_⟩
      obtain ⟨k1, k2⟩ := hh
      cases vs with
      | nil => simp at k1
      | cons v vs => exact ⟨v, vs, rfl, by simpa using k1, k2⟩
    · cases h
  | [], _ :: _, h => by simp [namesB] at h
  | e :: es, [], h => by simp [namesB] at h
theorem names_len {N : List Str} {sc : Str → Bool} {env : PySem.Env} : ∀ {es : List Expr} {is : List Nat}, namesB N sc es is = true → (assignEach es env).length = is.length ∧ (assignEach es env).findIdx? (·.1) = none
  | [], [], _ => ⟨rfl, rfl⟩
  | e :: es, i :: is, h => by
    simp only [namesB] at h
    split at h
    · rename_i x ex
      obtain ⟨p, rfl⟩ := nameOf_some ex
      simp only [Bool.and_eq_true, decide_eq_true_eq] at h
      obtain ⟨h1, h2, h3⟩ := h
      obtain ⟨q1, q2⟩ := names_len (env := env) h3
      have e1 : assignEach (.Name x p :: es) env = (false, assign (.Name x p) env) :: assignEach es env := rfl
      rw [e1]
      exact ⟨congrArg (· + 1) q1, by rw [List.findIdx?_cons, q2]; rfl⟩
    · cases h
  | [], _ :: _, h => by simp [namesB] at h
  | e :: es, [], h => by simp [namesB] at h
theorem put_all {P : Par} {G H : Hp} : ∀ (is : List Nat) {vs : List V} {ds : List D} {σ : St} {env : Env}, Rel P cx G0 H0 G H σ env → Reps P G vs ds →
    Rel P cx G0 H0 G H ((is.zip vs).foldl (fun σ p => σ.set p.1 (some p.2)) σ) ((is.zip ds).foldl (fun e p => e.set p.1 (.val p.2)) env)
  | [], _, _, _, _, rel, _ => rel
  | i :: is, _, _, _, _, rel, .nil => rel
  | i :: is, _, _, _, _, rel, .cons h r => put_all is (rel.putD h) r
/-- a target's reading -/
def gT (K : PySem.W.Frag) : Tg → TG
  | .n i => gName i
  | .t is => gTup K is.length (gNames is)
def tgIx : Tg → List Nat
  | .n i => [i]
  | .t is => is
theorem wipe_set {i : Nat} {z : Option V} : ∀ {vs : List Nat} {σ : St}, i ∈ vs → wipe (σ.set i z) vs = wipe σ vs
  | [], _, h => by simp at h
  | v :: vs, σ, h => by
    unfold wipe
    by_cases e : v = i
    · subst e
      by_cases q : v ∈ vs
      · rw [wipe_set q]
      · have : ∀ (vs : List Nat) (σ : St), v ∉ vs → wipe (σ.set v z) vs = (wipe σ vs).set v z := by
          intro vs
          induction vs with
          | nil => intro σ _; rfl
          | cons u us ih =>
            intro σ hn
            simp only [List.mem_cons, not_or] at hn
            unfold wipe
            rw [ih σ hn.2, List.set_comm _ _ hn.1]
        rw [this vs σ q, List.set_set]
    · rw [wipe_set (by simpa [Ne.symm e] using h)]
theorem wipe_sets : ∀ (is : List Nat) {vs : List V} {σ : St} {own : List Nat}, (∀ i ∈ is, i ∈ own) → wipe ((is.zip vs).foldl (fun σ p => σ.set p.1 (some p.2)) σ) own = wipe σ own
  | [], _, _, _, _ => rfl
  | i :: is, [], _, _, _ => rfl
  | i :: is, v :: vs, σ, own, h => by
    rw [List.zip_cons_cons, List.foldl_cons, wipe_sets is fun j hj => h j (List.mem_cons_of_mem _ hj)]
    exact wipe_set (h i List.mem_cons_self)
theorem setT_ok {P : Par} {G H : Hp} {σ : St} {env e1 : Env} {tg : Tg} {d : D} {v : V} {Q : St → Hp → Prop} (rel : Rel P cx G0 H0 G H σ env) (r : Rep P G v d) (e : setT tg d env = some e1) (hq : ∀ σ', (∀ own, (∀ i ∈ tgIx tg, i ∈ own) → wipe σ' own = wipe σ own) → Rel P cx G0 H0 G H σ' e1 → Q σ' H) : gT P.K tg v σ H Q := by
  cases tg with
  | n i =>
    have e : some (env.set i (.val d)) = some e1 := e
    cases e
    exact hq _ (fun own h => wipe_set (h i List.mem_cons_self)) (rel.putD r)
  | t is =>
    cases r with
    | @tup a vs ds h r =>
      have e : (if ds.length = is.length then some ((is.zip ds).foldl (fun e p => e.set p.1 (.val p.2)) env) else none) = some e1 := e
      split at e
      · rename_i hl
        cases e
        exact ⟨a, vs, rfl, SqT.of (rel.gh _ _ h), by rw [r.length]; exact hl, by rw [r.length]; exact hl, hq _ (fun own h => wipe_sets is h) (put_all is rel r)⟩
      · cases e
    | _ => cases e
/-- what target the text has -/
def tgB (N : List Str) (sc : Str → Bool) (e : Expr) : Tg → Bool
  | .n i => (match nameOf e with
    | some x => decide (N[i]? = some x) && sc x
    | none => false)
  | .t is => (match e with
    | .Tuple es _ _ => namesB N sc es is
    | _ => false)
theorem pg_tg {tg : Tg} {stb : Str → Bool} (hst : StB X stb) (hc : X.calm = true) (hN : X.N.Nodup) (h : tgB X.N stb e tg = true) : PG X e (gT X.K tg) := by
  cases tg with
  | n i =>
    simp only [tgB] at h
    split at h
    · rename_i x ex
      obtain ⟨p, rfl⟩ := nameOf_some ex
      simp only [Bool.and_eq_true, decide_eq_true_eq] at h
      exact pg_name hN h.1 (hst x h.2).1 (hst x h.2).2
    · cases h
  | t is =>
    simp only [tgB] at h
    split at h
    · obtain ⟨h1, h2⟩ := names_len (env := X.env) h
      exact pg_tup hc (pgs_names hst hN h) h1 h2
    · cases h
theorem ss_asgt {es : List Expr} {is : List Nat} {k : Nat} {tp : Pos} {stb : Str → Bool} (hst : StB X stb) (hc : X.calm = true) (hN : X.N.Nodup) (h : namesB X.N stb es is = true) (he : SE X T ca xa cx G0 H0 W e f) (hs : noTup e = true) :
    SS X T ca xa cx G0 H0 W (.Assign [.Tuple es k tp] e pos) fun env => (f (frz fr env)).to (frz fr env) fun x => (match setT (.t is) x.d (frz fr env) with
    | some e1 => .nx e1
    | none => .bad) :=
  (ps_asg he (pg_tg (tg := .t is) (e := .Tuple es k tp) hst hc hN h) (sws_no rfl) (swst_no hs)).imp fun D σ H ⟨G, env, rel, p⟩ => by
    obtain ⟨G', s, rel'⟩ := rel.frz fr
    refine ⟨G', _, rel', to_bind rel' p fun a v H1 G1 st r q => ?_⟩
    split at q
    · rename_i e1 ee
      cases a with
      | own ds => cases ee
      | val d => exact setT_ok (P := PX X T ca xa) (rel'.step st) r ee fun σ' _ r' => q _ _ _ r'
    · exact False.elim q
end
end PL

set_option linter.all false
set_option Elab.async false
set_option maxRecDepth 100000
set_option maxHeartbeats 1000000
/-! Soundness, part 9: statements that write; while. -/
namespace PL
open PySem PySem.Spec PyProof.Rows L2
theorem sub_assign {o i : Expr} {pos : Pos} {env : PySem.Env} (h : noSlice i = true) : ∀ v, assign (.Subscript o i pos) env v = (do
      let ov ← holding [v] (eval o env)
      let iv ← holding [v, ov] (eval i env)
      standAt pos
      holding [v, ov, iv] (setItem ov iv v)
      release [v, ov, iv] []) := fun v => by
  cases i <;> first | rfl | (simp [noSlice] at h)
theorem aug_store {i : Expr} (h : noSlice i = true) : ∀ ov iv new, augStore i ov iv new = (do holding [new, ov, iv] (setItem ov iv new); release [new, ov, iv] []; pure .next) := fun ov iv new => by
  cases i <;> first | rfl | (simp [noSlice] at h)
section
variable {X : Cx} {T : Tab} {ca xa : Nat → Addr} {cx : Hand} {G0 H0 : Hp} {W : WX} {a b c d e o : Expr} {fa fb fc fd : Env → Res D} {f g : Env → Res Vl} {pos : Pos} {fr : List Nat}
theorem ixNat_ixN (n : Nat) (i : Int) : ixNat n i = ixN n i := rfl
def augOp : O2 → Operator
  | .add => .Add
  | _ => .Sub
def augF : O2 → Int → Int → Int
  | .add, a, b => a + b
  | _, a, b => a - b
theorem pip_aug (o : O2) : PIp X (augOp o) (ipI (augF o)) := by
  cases o <;> first | exact ip_add | exact ip_sub
theorem ss_aug {i : Nat} {x : Str} {p1 : Pos} {op : O2} (hN : X.N.Nodup) (hi : X.N[i]? = some x) (hx : Loc X.env.scope x) (hf : X.fn x = true ∨ X.env.scope.names.lookup x = some .local) (he : SE X T ca xa cx G0 H0 W e f) :
    SS X T ca xa cx G0 H0 W (.AugAssign (.Name x p1) (augOp op) e pos) fun env => (match env[i]? with
    | some (.val x) => (f env).to env fun y => (match x, y with
      | .int a, .val (.int b) => (match op with
        | .add => .nx (env.set i (.val (.int (a + b))))
        | .sub => .nx (env.set i (.val (.int (a - b))))
        | _ => .bad)
      | _, _ => .bad)
    | _ => .bad) :=
  (ps_aug hN hi hx he (pip_aug op) hf).imp fun D σ H ⟨G, env, rel, p⟩ => by
    dsimp only at p
    split at p
    · rename_i d ed
      obtain ⟨v, ev, rv⟩ := rel.sl i _ ed
      refine ⟨v, ev, G, env, rel, to_bind rel p fun r y H1 G1 st ry q => ?_⟩
      split at q
      · rename_i _ _ j k
        cases rv with
        | int j =>
          cases (show Rep _ G1 y (.int k) from ry) with
          | int k =>
            refine ⟨j, k, rfl, rfl, ?_⟩
            cases op with
            | add => exact q _ _ _ ((rel.step st).putD (.int _))
            | sub => exact q _ _ _ ((rel.step st).putD (.int _))
            | _ => exact False.elim q
      · exact False.elim q
    · exact False.elim p
theorem own_at {P : Par} {G H : Hp} {σ : St} {env : Env} {i : Nat} {ds : List D} (rel : Rel P cx G0 H0 G H σ env) (e : env[i]? = some (.own ds)) : ∃ p vs, σ[i]? = some (some (.ref p)) ∧ H p = some (.lst vs) ∧ Reps P G vs ds := by
  obtain ⟨p, vs, e3, h1, h2, h3, r⟩ := rel.sl i _ e
  exact ⟨p, vs, e3, h1, r⟩
theorem ss_app {i : Nat} {x : Str} {p1 apos p2 : Pos} (hi : X.N[i]? = some x) (hx : Vis X.env.scope x) (hd : (x == ("__debug__" : Str)) = false) (hcd : (x == ("__classdict__" : Str)) = false) (he : SE X T ca xa cx G0 H0 W e f) (hn : noStar e = true) (hl : (apos.endLine == p2.line) = true) :
    SS X T ca xa cx G0 H0 W (.Expr (.Call (.Attribute (.Name x p1) "append" apos) [e] [] p2) pos) fun env => (match (frz fr env)[i]? with
    | some (.own ds) => (f (frz fr env)).to (frz fr env) fun x => if ds.length < SL then .nx ((frz fr env).set i (.own (ds ++ [x.d]))) else .bad
    | _ => .bad) := by
  have st : starEach [e] X.env = [(false, eval e X.env)] := star_cons (es := []) hn
  have hfew : ((backTo p2 (starEach [e] X.env)).all (fun x => !x.1) && (backToKw p2 (keywordEach [] X.env)).all (fun x => x.1.isSome)
      && decide ([e].length + ([] : List Keyword).length + (if ([] : List Keyword).isEmpty then 0 else 1) < 30)) = true := by rw [st]; rfl
  have main := ps_expr (pos := pos) (pe_bm (apos := apos) (cpos := p2) PySem.F.plainAttrs_list PySem.F.slot_list_append PySem.F.type_list_append mt_append (pe_var (pos := p1) hi hx hd hcd) (pa_cons he pa_nil st) (base_ok rfl) hfew hl st (by rfl)) (sw_no rfl)
  refine main.imp fun D σ H ⟨G, env, rel, p⟩ => ?_
  obtain ⟨G', s, rel'⟩ := rel.frz fr
  dsimp only at p
  split at p
  · rename_i ds ed
    obtain ⟨l, vs, e1, h1, r1⟩ := own_at rel' ed
    refine ⟨.ref l, e1, .inl ⟨rfl, vs, SqL.of h1⟩, G', _, rel', to_bind rel' p fun a v H1 G1 st r q => ?_⟩
    obtain ⟨G2, st2, g2, rr⟩ := RV.still r st
    split at q
    · rename_i hz
      have rel2 := rel'.step st2
      obtain ⟨l2, vs2, e2, h2, r2⟩ := own_at rel2 ed
      rw [e1] at e2
      cases e2
      refine ⟨l, vs2, v, rfl, rfl, h2, by rw [r2.length, sizeLine_eq]; exact hz, ?_⟩
      exact q _ _ _ (rel2.write ed e1 h2 (r2.append (.cons rr .nil)))
    · exact False.elim q
  · exact False.elim p
theorem ss_seti {i : Nat} {x : Str} {k : Expr} {p1 p2 : Pos} (hi : X.N[i]? = some x) (hx : Vis X.env.scope x) (hd : (x == ("__debug__" : Str)) = false) (hcd : (x == ("__classdict__" : Str)) = false) (he : SE X T ca xa cx G0 H0 W e f) (hk : SE X T ca xa cx G0 H0 W k g) (hs : noSlice k = true) :
    SS X T ca xa cx G0 H0 W (.Assign [.Subscript (.Name x p1) k p2] e pos) fun env => (match (frz fr env)[i]? with
    | some (.own ds) => (f (frz fr env)).to (frz fr env) fun x => (g (frz fr env)).to (frz fr env) fun y => (match y with
      | .val (.int z) => (match ixNat ds.length z with
        | some j => .nx ((frz fr env).set i (.own (ds.set j x.d)))
        | none => .bad)
      | _ => .bad)
    | _ => .bad) := by
  refine (ps_asg he (pg_sub (pe_var (pos := p1) hi hx hd hcd) hk set_list (sub_assign hs)) (sws_no rfl) (by cases e <;> rfl)).imp fun D σ H ⟨G, env, rel, p⟩ => ?_
  obtain ⟨G', s, rel'⟩ := rel.frz fr
  dsimp only at p
  split at p
  · rename_i ds ed
    obtain ⟨l, vs, e1, h1, r1⟩ := own_at rel' ed
    refine ⟨G', _, rel', to_bind rel' p fun a v H1 G1 st r q => ?_⟩
    obtain ⟨G2, st2, g2, rr⟩ := RV.still r st
    have rel2 := rel'.step st2
    refine ⟨.ref l, e1, G2, _, rel2, to_bind rel2 q fun b y H2 G3 st3 ry q2 => ?_⟩
    split at q2
    · rename_i z
      split at q2
      · rename_i j ej
        cases (show Rep _ G3 y (.int z) from ry) with
        | int z =>
          have rel3 := rel2.step st3
          obtain ⟨l2, vs2, e2, h2, r2⟩ := own_at rel3 ed
          rw [e1] at e2
          cases e2
          refine ⟨l, vs2, z, j, rfl, rfl, h2, by rw [r2.length]; exact ej, ?_⟩
          exact q2 _ _ _ (rel3.write ed e1 h2 (r2.set (rr.mono st3.gg) j))
      · exact False.elim q2
    · exact False.elim q2
  · exact False.elim p
/-- o[i] as values -/
theorem get_own : PGet X (fun o i H Q => ∃ p xs k j v, o = .ref p ∧ i = .int k ∧ H p = some (.lst xs) ∧ ixN xs.length k = some j ∧ xs[j]? = some v ∧ Q v H) := by
  intro pins s σ H o i ov iv Q I ro ri h
  obtain ⟨p, xs, k, j, z, rfl, rfl, hp, hj, hv, q⟩ := h
  cases ro
  obtain ⟨t, rfl⟩ := ri
  obtain ⟨its, r, pl, hz⟩ := I.list (SqL.of hp)
  obtain ⟨h1, h2, h3, h4⟩ := ixN_seq hj
  obtain ⟨w, ew, rw'⟩ := r.get hv
  have hl := r.length
  have hn := line63
  have fin : EP X pins σ Q w s := ⟨z, H, I, rw', q⟩
  by_cases h0 : 0 ≤ k
  · have hj : k.toNat = j := by
      rw [seqIndex_of h0 h4] at h1
      exact Option.some.inj h1
    exact wpAny_getItem_list pl.isList h0 (by omega) (by rw [hj]; simpa using ew) fin
  · have hj : (k + (its.toArray.size : Int)).toNat = j := by
      rw [seqIndex_neg (by omega) h3] at h1
      rw [List.size_toArray, ← hl]
      exact Option.some.inj h1
    exact wpAny_getItem_list_neg pl.isList (by omega) (by rw [List.size_toArray] <;> omega) (by omega) (by rw [hj]; simpa using ew) fin
theorem ss_augi {i : Nat} {x : Str} {k : Expr} {p1 p2 : Pos} {op : O2} (hi : X.N[i]? = some x) (hx : Vis X.env.scope x) (hd : (x == ("__debug__" : Str)) = false) (hcd : (x == ("__classdict__" : Str)) = false) (he : SE X T ca xa cx G0 H0 W e f) (hk : SE X T ca xa cx G0 H0 W k g) (hs : noSlice k = true) :
    SS X T ca xa cx G0 H0 W (.AugAssign (.Subscript (.Name x p1) k p2) (augOp op) e pos) fun env => (match env[i]? with
    | some (.own ds) => (g env).to env fun y => (match y with
      | .val (.int z) => (match ixNat ds.length z with
        | some j => (match ds[j]? with
          | some (.int a) => (f env).to env fun x => (match x with
            | .val (.int b) => (match op with
              | .add => .nx (env.set i (.own (ds.set j (.int (a + b)))))
              | .sub => .nx (env.set i (.own (ds.set j (.int (a - b)))))
              | _ => .bad)
            | _ => .bad)
          | _ => .bad)
        | none => .bad)
      | _ => .bad)
    | _ => .bad) := by
  refine (ps_augS (pe_var (pos := p1) hi hx hd hcd) hk get_own he (pip_aug op) set_list (aug_store hs)).imp fun D σ H ⟨G, env, rel, p⟩ => ?_
  dsimp only at p
  split at p
  · rename_i ds ed
    obtain ⟨l, vs, e1, h1, r1⟩ := own_at rel ed
    refine ⟨.ref l, e1, G, env, rel, to_bind rel p fun b y H2 G2 st2 ry q => ?_⟩
    split at q
    · rename_i z
      split at q
      · rename_i j ej
        split at q
        · rename_i n ea
          cases (show Rep _ G2 y (.int z) from ry) with
          | int z =>
            have rel2 := rel.step st2
            obtain ⟨l2, vs2, e2, h2, r2⟩ := own_at rel2 ed
            rw [e1] at e2
            cases e2
            obtain ⟨v, ev, rv⟩ := r2.get ea
            cases rv with
            | int n =>
              refine ⟨l, vs2, z, j, .int n, rfl, rfl, h2, by rw [r2.length]; exact ej, ev, G2, env, rel2, to_bind rel2 q fun c w H3 G3 st3 rw3 q3 => ?_⟩
              split at q3
              · rename_i m
                cases (show Rep _ G3 w (.int m) from rw3) with
                | int m =>
                  have rel3 := rel2.step st3
                  obtain ⟨l3, vs3, e3, h3, r3⟩ := own_at rel3 ed
                  rw [e1] at e3
                  cases e3
                  refine ⟨n, m, rfl, rfl, l, vs3, z, j, rfl, rfl, h3, by rw [r3.length]; exact ej, ?_⟩
                  cases op with
                  | add => exact q3 _ _ _ (rel3.write ed e1 h3 (r3.set (.int _) j))
                  | sub => exact q3 _ _ _ (rel3.write ed e1 h3 (r3.set (.int _) j))
                  | _ => exact False.elim q3
              · exact False.elim q3
        · exact False.elim q
      · exact False.elim q
    · exact False.elim q
  · exact False.elim p
/-! ### self.f = e -/
theorem ss_setf {c j : Nat} {x n : Str} {ci : ClI} {p1 p2 : Pos} (hi : X.N[0]? = some x) (hx : Vis X.env.scope x) (hd : (x == ("__debug__" : Str)) = false) (hcd : (x == ("__classdict__" : Str)) = false) (he : SE X T ca xa cx G0 H0 W e f) (C : ClsOk X T ca c ci) (hn : ci.fields[j]? = some n) (hnd : ci.fields.Nodup) :
    SS X T ca xa cx G0 H0 W (.Assign [.Attribute (.Name x p1) n p2] e pos) fun env => (f (frz fr env)).to (frz fr env) fun x => (match (frz fr env).head? with
    | some (.obj k' ds) => if k' = c ∧ j = ds.length ∧ j < 100 then .nx ((frz fr env).set 0 (.obj c (ds ++ [x.d]))) else .bad
    | _ => .bad) := by
  refine (ps_fld (pe_var (pos := p1) hi hx hd hcd) he (by cases e <;> rfl)).imp fun D σ H ⟨G, env, rel, p⟩ => ?_
  obtain ⟨G', s, rel'⟩ := rel.frz fr
  refine ⟨G', _, rel', to_bind rel' p fun a v H1 G1 st r q => ?_⟩
  obtain ⟨G2, st2, g2, rr⟩ := RV.still r st
  have rel2 := rel'.step st2
  split at q
  · rename_i k' ds eo
    have eo : (frz fr env)[0]? = some (.obj k' ds) := by rw [← eo, List.head?_eq_getElem?]
    split at q
    · rename_i hc
      obtain ⟨hc1, hc2, hc3⟩ := hc
      subst hc1
      obtain ⟨a, dx, fs, vs, ci', e1, h1, h2, h3, h4, h5, r5, ho⟩ := rel2.sl 0 _ eo
      rw [C.at_] at h4
      obtain rfl := Option.some.inj h4
      have hl : fs.length < 1000 := by
        have := h5.len
        have := r5.length
        omega
      refine ⟨.ref a, e1, a, ca k', dx, fs, rfl, h1, C.cls, C.no n (List.mem_of_getElem? hn), hl, ?_⟩
      refine q _ _ _ (rel2.writeG eo e1 h1 (by intro _; simp) h3 h2 ?_ fun q hq => ?_)
      · refine ⟨a, dx, putF n v fs, vs ++ [v], ci, e1, upd_same, h2, h3, C.at_, ⟨fun i m w em ew => ?_, fun m hm => ?_, ?_⟩, r5.append (.cons rr .nil), ho⟩
        · rw [lookup_putF]
          have hlen := r5.length
          by_cases hi : i < vs.length
          · rw [List.getElem?_append_left hi] at ew
            have hmn : m ≠ n := fun z => by
              subst z
              have := nodup_ix hnd em hn
              omega
            rw [if_neg hmn]
            exact h5.at_ i m w em ew
          · rw [List.getElem?_append_right (by omega)] at ew
            have hi2 : i - vs.length = 0 := by
              cases q : i - vs.length with
              | zero => rfl
              | succ k => rw [q] at ew; simp at ew
            rw [hi2] at ew
            have : i = j := by omega
            subst this
            rw [hn] at em
            cases em
            rw [if_pos rfl]
            simpa using ew
        · rw [lookup_putF, if_neg (fun z => hm (by rw [z]; exact List.mem_of_getElem? hn))]
          exact h5.no m hm
        · have := length_putF n v fs
          have := h5.len
          rw [List.length_append, List.length_singleton]
          omega
      · have hq : σ[0]? = some (some (.ref q)) := hq
        rw [e1] at hq
        cases hq
        rfl
    · exact False.elim q
  · exact False.elim q
/-! ### while -/
theorem ss_whl {t : Expr} {bs : List Stmt} {ft : Env → Res Bool} {fb : Env → Out} {n : Nat} (hp : PassesOwn (model X.prog X.w) X.A X.env X.xe) (ht : ST X T ca xa cx G0 H0 W t ft) (hb : SSs X T ca xa cx G0 H0 W bs fb) :
    SS X T ca xa cx G0 H0 W (.While t bs [] pos) fun env => whlLoop ft fb fr n env :=
  (ps_while hp ht hb).imp fun D σ H ⟨G, env, rel, p⟩ => by
    refine ⟨fun m σ H => ∃ G env, Rel (PX X T ca xa) cx G0 H0 G H σ env ∧ OutP (PX X T ca xa) cx G0 H0 W D (whlLoop ft fb fr m env), ⟨n, G, env, rel, p⟩, ?_⟩
    rintro m σ H ⟨G, env, rel, p⟩
    cases m with
    | zero => exact False.elim p
    | succ m =>
      obtain ⟨G', s, rel'⟩ := rel.frz fr
      refine ⟨G', _, rel', to_bind rel' p fun k b H1 G1 st r q => ?_⟩
      have r : b = k := r
      subst r
      cases b with
      | false => rw [if_neg Bool.false_ne_true] at q ⊢; exact q _ _ _ (rel'.step st)
      | true =>
        rw [if_pos rfl] at q ⊢
        refine ⟨fun σ H => ∃ G env, Rel (PX X T ca xa) cx G0 H0 G H σ env ∧ OutP (PX X T ca xa) cx G0 H0 W D (whlLoop ft fb fr m env), fun σ' H' h => ⟨m, Nat.lt_succ_self _, h⟩, G1, _, rel'.step st, ?_⟩
        cases e : fb (frz fr env) with
        | nx e2 => rw [e] at q; exact fun σ2 H2 G2 r2 => ⟨G2, e2, r2, q⟩
        | ct e2 => rw [e] at q; exact fun σ2 H2 G2 r2 => ⟨G2, e2, r2, q⟩
        | ret r => rw [e] at q; exact q
        | err k fs e2 => rw [e] at q; exact q
        | bad => rw [e] at q; exact q
/-! ### return x, self.f -/
theorem ss_reto {i : Nat} {x : Str} {p1 : Pos} (hi : X.N[i]? = some x) (hx : Vis X.env.scope x) (hd : (x == ("__debug__" : Str)) = false) (hcd : (x == ("__classdict__" : Str)) = false) : SS X T ca xa cx G0 H0 W (.Return (some (.Name x p1)) pos) fun env => (match env[i]? with
    | some (.own ds) => .ret (.own ds)
    | some (.val d) => .ret (.val d)
    | _ => .bad) :=
  (ps_ret (pe_var (pos := p1) hi hx hd hcd)).imp fun D σ H ⟨G, env, rel, p⟩ => by
    dsimp only at p
    cases e : env[i]? with
    | none => rw [e] at p; exact False.elim p
    | some s =>
      have q := rel.sl i s e
      rw [e] at p
      cases s with
      | val d =>
        obtain ⟨v, e2, r⟩ := q
        exact ⟨v, e2, p v H G rel.toStep r⟩
      | own ds =>
        obtain ⟨a, vs, e2, h1, h2, h3, r⟩ := q
        exact ⟨_, e2, p _ H G rel.toStep ⟨a, vs, rfl, h1, h2, h3, r⟩⟩
      | _ => exact False.elim p
theorem s_sf {k j i : Nat} {x n : Str} {p1 : Pos} {ci : ClI} (hi : X.N[i]? = some x) (hx : Vis X.env.scope x) (hd : (x == ("__debug__" : Str)) = false) (hcd : (x == ("__classdict__" : Str)) = false) (C : ClsOk X T ca k ci) (hn : ci.fields[j]? = some n) :
    SE X T ca xa cx G0 H0 W (.Attribute (.Name x p1) n pos) fun env => (match env[i]? with
    | some (.obj k' fs) => if k' = k then (match fs[j]? with
      | some d => .ok (.val d)
      | none => .bad) else .bad
    | _ => .bad) :=
  (pe_fld (pe_var (pos := p1) hi hx hd hcd) (base_ok rfl)).imp fun σ H Q ⟨G, env, rel, p⟩ => by
    dsimp only at p
    cases e : env[i]? with
    | none => rw [e] at p; exact False.elim p
    | some s =>
      have q := rel.sl i s e
      rw [e] at p
      cases s with
      | obj k' fs =>
        dsimp only at p
        split at p
        · rename_i ek
          subst ek
          split at p
          · rename_i d ed
            obtain ⟨a, dx, l, vs, ci', e2, h1, h2, h3, h4, h5, r, _⟩ := q
            rw [C.at_] at h4
            obtain rfl := Option.some.inj h4
            obtain ⟨v, ev, rv⟩ := r.get ed
            exact ⟨_, e2, a, ca k', dx, l, v, rfl, h1, C.cls, C.no n (List.mem_of_getElem? hn), h5.at_ j n v hn ev, p v H G (Step.refl rel.gh) rv⟩
          · exact False.elim p
        · exact False.elim p
      | _ => exact False.elim p
end
end PL

set_option linter.all false
set_option Elab.async false
set_option maxRecDepth 100000
set_option maxHeartbeats 1000000
/-! Soundness, part 10: what is walked; for; list comprehensions. -/
namespace PL
open PySem PySem.Spec PyProof.Rows L2
section
variable {X : Cx} {T : Tab} {ca xa : Nat → Addr} {cx : Hand} {G0 H0 : Hp} {W : WX} {a b c d e o : Expr} {fa fb fc fd : Env → Res D} {f g : Env → Res Vl} {pos p : Pos} {fr : List Nat} {tg : Expr}
/-- walking: the items are data -/
def ItOk (P : Par) (G H : Hp) (J : L2.It) (ds : List D) (i : Nat) : Prop := (∀ d, ds[i]? = some d → J.go i H ∧ ∀ x Hx, J.yld i H x Hx → Hx = H ∧ Rep P G x d) ∧ (ds.length ≤ i → J.stop i H)
def RItF (P : Par) (hk : Hp) (_H G' H' : Hp) (J : L2.It) (ds : List D) : Prop := ∀ i G2 H2, Same G' G2 → Same G2 H2 → Same hk H2 → ItOk P G2 H2 J ds i
def RItC (P : Par) (_H G' H' : Hp) (J : L2.It) (ds : List D) : Prop := ∀ i G2 H2, Step G' H' G2 H2 → ItOk P G2 H2 J ds i
theorem anti_F {P : Par} {hk : Hp} : Anti (RItF P hk) := fun _ _ _ _ _ _ _ h => h
theorem anti_C {P : Par} : Anti (RItC P) := fun _ _ _ _ _ _ _ h => h
abbrev SIF (X : Cx) (T : Tab) (ca xa : Nat → Addr) (cx : Hand) (G0 H0 : Hp) (W : WX) (tg e : Expr) (f : Env → Res (List D)) : Prop := PI X tg e (tR (PX X T ca xa) cx G0 H0 W (RItF (PX X T ca xa) cx.hk) f)
abbrev SIC (X : Cx) (T : Tab) (ca xa : Nat → Addr) (cx : Hand) (G0 H0 : Hp) (W : WX) (tg e : Expr) (f : Env → Res (List D)) : Prop := PI X tg e (tR (PX X T ca xa) cx G0 H0 W (RItC (PX X T ca xa)) f)
theorem _root_.L2.PI.imp {X : Cx} {tg e : Expr} {t t' : TI} (h : PI X tg e t) (i : ∀ σ H Q, t' σ H Q → t σ H Q) : PI X tg e t' := ⟨fun pins s σ H Q I q => h.run pins s σ H Q I (i σ H Q q)⟩
/-- list, tuple or text -/
def iSeq (K : PySem.W.Frag) (te : TE) : TI := fun σ H R => te σ H fun x H1 => (∃ a xs, x = .ref a ∧ SqL K H1 a xs ∧ R (Itl K a) H1) ∨ (∃ a xs, x = .ref a ∧ SqT K H1 a xs ∧ R (Itt K a) H1) ∨ ∃ z, x = .str z ∧ R (Its z) H1
theorem pi_seq {te : TE} (he : PE X e te) : PI X tg e (iSeq X.K te) := by
  refine ⟨fun pins s σ H R I h => ?_⟩
  refine thn (he.run pins s σ H _ I h) fun v s1 ⟨x, H1, I1, r1, q1⟩ => ?_
  rcases q1 with ⟨a, xs, e, hq, q⟩ | ⟨a, xs, e, hq, q⟩ | ⟨z, e, q⟩
  · subst e
    cases r1
    obtain ⟨its, rv, p, hz⟩ := I1.list hq
    refine wpAny_pyIter_list p.isList ?_
    refine ⟨s1.heap.objs.size, [s1.heap.objs.size], _, _, H1, rfl, I1.kept (t' := s1.toks) fun b o e => Heap.get?_push_of_some _ e, turn_list a _, ⟨_, Heap.get?_push_size _ rfl, rfl, rfl⟩, fun b hb => ?_, q⟩
    have e : b = s1.heap.objs.size := by simpa using hb
    subst e
    exact I1.fpOk (Nat.le_refl _) (I1.hok.fresh (Nat.le_refl _))
  · subst e
    cases r1
    obtain ⟨its, rv, p, hz⟩ := I1.tuple hq
    refine wpAny_pyIter_tuple (show s1.heap.IsTuple a its.toArray from p) ?_
    refine ⟨s1.heap.objs.size, [s1.heap.objs.size], _, _, H1, rfl, I1.kept (t' := s1.toks) fun b o e => Heap.get?_push_of_some _ e, turn_tuple a _, ⟨_, Heap.get?_push_size _ rfl, rfl, rfl⟩, fun b hb => ?_, q⟩
    have e : b = s1.heap.objs.size := by simpa using hb
    subst e
    exact I1.fpOk (Nat.le_refl _) (I1.hok.fresh (Nat.le_refl _))
  · subst e
    obtain ⟨t, rfl⟩ := r1
    cases ha : z.cps.all (· < 128)
    · exact wpAny_pyIter_wide ha (pi_one (tk := s1.toks) I1 _ (turn_str _ z t "str_iterator" (.inr rfl)) ⟨_, Heap.get?_push_size _ rfl, rfl, rfl⟩ q)
    · exact wpAny_pyIter_ascii ha (pi_one (tk := s1.toks) I1 _ (turn_str _ z t "str_ascii_iterator" (.inl rfl)) ⟨_, Heap.get?_push_size _ rfl, rfl, rfl⟩ q)

/-! ### walking data -/
theorem itl_ok {P : Par} {G H : Hp} {a : Addr} {vs : List V} {ds : List D} {i : Nat} (hq : SqL P.K H a vs) (inj : ∀ xs, SqL P.K H a xs → xs = vs) (r : Reps P G vs ds) : ItOk P G H (Itl P.K a) ds i := by
  refine ⟨fun d e => ?_, fun h => ⟨vs, hq, by rw [r.length]; exact h⟩⟩
  obtain ⟨v, e1, r1⟩ := r.get e
  refine ⟨⟨vs, v, hq, e1⟩, fun x Hx y => ?_⟩
  obtain ⟨e2, y⟩ := y
  have e3 := y vs hq
  rw [e1] at e3
  cases e3
  exact ⟨e2, r1⟩
theorem itl_ok' {P : Par} {G H : Hp} {a : Addr} {vs : List V} {ds : List D} {i : Nat} (hq : SqL P.K H a vs) (r : Reps P G vs ds) : ItOk P G H (Itl P.K a) ds i := by
  refine ⟨fun d e => ?_, fun h => ⟨vs, hq, by rw [r.length]; exact h⟩⟩
  obtain ⟨v, e1, r1⟩ := r.get e
  refine ⟨⟨vs, v, hq, e1⟩, fun x Hx y => ?_⟩
  obtain ⟨e2, y⟩ := y
  have e3 := y vs hq
  rw [e1] at e3
  cases e3
  exact ⟨e2, r1⟩
theorem itt_ok {P : Par} {G H : Hp} {a : Addr} {vs : List V} {ds : List D} {i : Nat} (hq : SqT P.K H a vs) (r : Reps P G vs ds) : ItOk P G H (Itt P.K a) ds i := by
  refine ⟨fun d e => ?_, fun h => ⟨vs, hq, by rw [r.length]; exact h⟩⟩
  obtain ⟨v, e1, r1⟩ := r.get e
  refine ⟨⟨vs, v, hq, e1⟩, fun x Hx y => ?_⟩
  obtain ⟨e2, y⟩ := y
  have e3 := y vs hq
  rw [e1] at e3
  cases e3
  exact ⟨e2, r1⟩
theorem its_ok {P : Par} {G H : Hp} {z : Str} {i : Nat} : ItOk P G H (Its z) (z.cps.toList.map fun c => .str ⟨#[c]⟩) i := by
  refine ⟨fun d e => ?_, fun h => ?_⟩
  · rw [List.getElem?_map] at e
    cases q : z.cps.toList[i]? with
    | none => rw [q] at e; cases e
    | some c =>
      rw [q] at e
      cases e
      have q2 : z.cps[i]? = some c := by simpa using q
      refine ⟨?_, fun x Hx y => ?_⟩
      · show i < z.cps.size
        exact (Array.getElem?_eq_some_iff.mp q2).1
      · obtain ⟨e2, c', e3, e4⟩ := y
        rw [q2] at e3
        cases e3
        subst e4
        exact ⟨e2, .str _⟩
  · show z.cps.size ≤ i
    simpa using h
theorem itv_ok {P : Par} {G H : Hp} {a : Addr} {vs : List V} {ds : List D} {i : Nat} (hq : SqL P.K H a vs) (r : Reps P G vs ds) : ItOk P G H (Itv P.K a vs.length) ds.reverse i := by
  have hl := r.length
  refine ⟨fun d e => ?_, fun h => by
    rw [List.length_reverse] at h
    show vs.length ≤ i
    omega⟩
  have hi : i < ds.length := by
    have := (List.getElem?_eq_some_iff.mp e).1
    simpa using this
  rw [List.getElem?_reverse hi] at e
  rw [← hl] at e
  obtain ⟨v, e1, r1⟩ := r.get e
  refine ⟨⟨by omega, vs, v, hq, e1⟩, fun x Hx y => ?_⟩
  obtain ⟨e2, y⟩ := y
  have e3 := y vs hq
  rw [e1] at e3
  cases e3
  exact ⟨e2, r1⟩
theorem itr_ok {P : Par} {G H : Hp} {i : Nat} (lo hi : Int) : ItOk P G H (Itr lo (hi - lo).toNat) (rangeD lo hi) i := by
  unfold rangeD
  refine ⟨fun d e => ?_, fun h => ?_⟩
  · rw [List.getElem?_map] at e
    cases q : (List.range (hi - lo).toNat)[i]? with
    | none => rw [q] at e; cases e
    | some k =>
      rw [q] at e
      cases e
      obtain ⟨h1, h2⟩ := List.getElem?_eq_some_iff.mp q
      rw [List.length_range] at h1
      rw [List.getElem_range] at h2
      subst h2
      refine ⟨h1, fun x Hx y => ?_⟩
      obtain ⟨e2, e3⟩ := y
      subst e3
      exact ⟨e2, .int _⟩
  · show (hi - lo).toNat ≤ i
    simpa using h
theorem itc_ok {P : Par} {G H : Hp} {i : Nat} (lo hi : Int) : ItOk P G H (Itc (lo + (((hi - lo).toNat : Nat) : Int) - 1) (-1) (hi - lo).toNat) (rangeD lo hi).reverse i := by
  have hlen : (rangeD lo hi).length = (hi - lo).toNat := by simp [rangeD]
  refine ⟨fun d e => ?_, fun h => ?_⟩
  · have hi' : i < (rangeD lo hi).length := by
      have := (List.getElem?_eq_some_iff.mp e).1
      simpa using this
    rw [List.getElem?_reverse hi', hlen] at e
    rw [hlen] at hi'
    unfold rangeD at e
    rw [List.getElem?_map] at e
    cases q : (List.range (hi - lo).toNat)[(hi - lo).toNat - 1 - i]? with
    | none => rw [q] at e; cases e
    | some k =>
      rw [q] at e
      cases e
      obtain ⟨h1, h2⟩ := List.getElem?_eq_some_iff.mp q
      rw [List.getElem_range] at h2
      subst h2
      refine ⟨hi', fun x Hx y => ?_⟩
      obtain ⟨e2, e3⟩ := y
      have e4 : lo + (((hi - lo).toNat - 1 - i : Nat) : Int) = lo + (((hi - lo).toNat : Nat) : Int) - 1 + (i : Nat) * (-1) := by omega
      subst e3
      refine ⟨e2, ?_⟩
      show Rep P G (V.int _) (D.int (lo + (((hi - lo).toNat - 1 - i : Nat) : Int)))
      rw [e4]
      exact .int _
  · show (hi - lo).toNat ≤ i
    rw [List.length_reverse, hlen] at h
    exact h

theorem itc3_ok {P : Par} {G H : Hp} {i : Nat} (lo hi k : Int) : ItOk P G H (Itc lo k (rangeN lo hi k)) (rangeC lo hi k) i := by
  unfold rangeC
  refine ⟨fun d e => ?_, fun h => ?_⟩
  · rw [List.getElem?_map] at e
    cases q : (List.range (rangeN lo hi k))[i]? with
    | none => rw [q] at e; cases e
    | some j =>
      rw [q] at e
      cases e
      obtain ⟨h1, h2⟩ := List.getElem?_eq_some_iff.mp q
      rw [List.length_range] at h1
      rw [List.getElem_range] at h2
      subst h2
      refine ⟨h1, fun x Hx y => ?_⟩
      obtain ⟨e2, e3⟩ := y
      subst e3
      exact ⟨e2, .int _⟩
  · show rangeN lo hi k ≤ i
    simpa using h
theorem rgc3 {i j k : Int} (hi : inR i = true) (hj : inR j = true) (h0 : 0 < k) (h1 : k < 1073741824) : RgC i j k (rangeN i j k) := by
  simp only [inR, Bool.and_eq_true, decide_eq_true_eq] at hi hj
  have hn : Builtin.Range.rangeSize i j k = (rangeN i j k : Nat) := by
    unfold Builtin.Range.rangeSize rangeN
    rw [if_pos h0]
    by_cases h : i < j
    · rw [if_pos h, if_pos h]
      have := Int.ediv_nonneg (show 0 ≤ j - i - 1 by omega) (show 0 ≤ k by omega)
      omega
    · rw [if_neg h, if_neg h]
      rfl
  refine ⟨by omega, by omega, ?_, hn⟩
  have hle : ((rangeN i j k : Nat) : Int) ≤ 2 ^ 63 - 1 := by
    unfold rangeN
    by_cases h : i < j
    · rw [if_pos h]
      have a := Int.ediv_nonneg (show 0 ≤ j - i - 1 by omega) (show 0 ≤ k by omega)
      have b := Int.ediv_le_self k (show 0 ≤ j - i - 1 by omega)
      omega
    · rw [if_neg h]
      decide
  unfold Builtin.Range.small
  rw [hn]
  simp only [Builtin.Range.rangeFitsLong, Bool.and_eq_true, Bool.or_eq_true, decide_eq_true_eq, beq_iff_eq, show k > 0 from h0, if_true]
  omega
/-! ### sources -/
/-- what a for asks of a source is enough for a comprehension -/
theorem si_C {f : Env → Res (List D)} (h : SIF X T ca xa cx G0 H0 W tg e f) : SIC X T ca xa cx G0 H0 W tg e f :=
  h.imp fun σ H R ⟨G, env, rel, q⟩ => ⟨G, env, rel, Post.bind (k := .ok) anti_C (by cases e : f env <;> (rw [e] at q; exact q)) fun ds J H1 G1 s r q1 => q1 J H1 G1 (Step.refl s.gh) fun i G2 H2 st => r i G2 H2 st.gg st.gh (((rel.hk.trans rel.hh).trans s.hh).trans st.hh)⟩
theorem sif_e (he : SE X T ca xa cx G0 H0 W e f) : SIF X T ca xa cx G0 H0 W tg e fun env => ((f env).bind fun x => .ok x.d).bind fun x => (match walkOf x with
    | some ds => .ok ds
    | none => .bad) :=
  (pi_seq (s_toD he)).imp fun σ H R ⟨G, env, rel, q⟩ => ⟨G, env, rel, Post.bind anti_F q fun d x H1 G1 s r q1 => by
    have r : Rep _ G1 x d := r
    cases r with
    | lst h r2 => exact .inl ⟨_, _, rfl, SqL.of (s.gh _ _ h), q1 _ _ _ (Step.refl s.gh) fun i G2 H2 s1 s2 s3 => itl_ok' (P := PX X T ca xa) (SqL.of (s2 _ _ (s1 _ _ h))) (r2.mono s1)⟩
    | tup h r2 => exact .inr (.inl ⟨_, _, rfl, SqT.of (s.gh _ _ h), q1 _ _ _ (Step.refl s.gh) fun i G2 H2 s1 s2 s3 => itt_ok (P := PX X T ca xa) (SqT.of (s2 _ _ (s1 _ _ h))) (r2.mono s1)⟩)
    | str z => exact .inr (.inr ⟨z, rfl, q1 _ _ _ (Step.refl s.gh) fun i G2 H2 s1 s2 s3 => its_ok⟩)
    | _ => exact False.elim q1⟩
theorem sif_s {i : Nat} {x : Str} {pos : Pos} (hN : X.N[i]? = some x) (hv : Vis X.env.scope x) (hd : (x == ("__debug__" : Str)) = false) (hcd : (x == ("__classdict__" : Str)) = false) : SIF X T ca xa cx G0 H0 W tg (.Name x pos) fun env => (match env[i]? with
    | some (.val d) => (match walkOf d with
      | some ds => .ok ds
      | none => .bad)
    | some (.pk ds) => .ok ds
    | _ => .bad) :=
  (pi_seq (pe_var hN hv hd hcd)).imp fun σ H R ⟨G, env, rel, q⟩ => by
    dsimp only at q
    cases e : env[i]? with
    | none => rw [e] at q; exact q.elim
    | some s =>
      have sl := rel.sl i s e
      rw [e] at q
      cases s with
      | val d =>
        obtain ⟨v, e2, r⟩ := sl
        refine ⟨v, e2, ?_⟩
        cases r with
        | lst h r2 => exact .inl ⟨_, _, rfl, SqL.of (rel.gh _ _ h), q _ _ _ (Step.refl rel.gh) fun i G2 H2 s1 s2 s3 => itl_ok' (P := PX X T ca xa) (SqL.of (s2 _ _ (s1 _ _ h))) (r2.mono s1)⟩
        | tup h r2 => exact .inr (.inl ⟨_, _, rfl, SqT.of (rel.gh _ _ h), q _ _ _ (Step.refl rel.gh) fun i G2 H2 s1 s2 s3 => itt_ok (P := PX X T ca xa) (SqT.of (s2 _ _ (s1 _ _ h))) (r2.mono s1)⟩)
        | str z => exact .inr (.inr ⟨z, rfl, q _ _ _ (Step.refl rel.gh) fun i G2 H2 s1 s2 s3 => its_ok⟩)
        | _ => exact False.elim q
      | pk ds =>
        obtain ⟨a, vs, e2, h1, r⟩ := sl
        exact ⟨_, e2, .inl ⟨a, vs, rfl, (rel.hk.trans rel.hh).seq h1, q _ _ _ (Step.refl rel.gh) fun i G2 H2 s1 s2 s3 => itl_ok' (P := PX X T ca xa) (s3.seq h1) (r.mono s1)⟩⟩
      | _ => exact q.elim
theorem sic_o (ha : SP' X T ca xa cx G0 H0 W e fa) : SIC X T ca xa cx G0 H0 W tg e fun env => (fa env).bind fun x => (match walkOf x with
    | some ds => .ok ds
    | none => .bad) :=
  (pi_seq ha).imp fun σ H R ⟨G, env, rel, q⟩ => ⟨G, env, rel, Post.bind anti_C q fun d x H1 G1 s r q1 => by
    rcases r with r | ⟨a, vs, ds, rfl, rfl, h, r⟩
    · cases r with
      | lst h r2 => exact .inl ⟨_, _, rfl, SqL.of (s.gh _ _ h), q1 _ _ _ (Step.refl s.gh) fun i G2 H2 st => itl_ok' (P := PX X T ca xa) (SqL.of (st.hh _ _ (s.gh _ _ h))) (r2.mono st.gg)⟩
      | tup h r2 => exact .inr (.inl ⟨_, _, rfl, SqT.of (s.gh _ _ h), q1 _ _ _ (Step.refl s.gh) fun i G2 H2 st => itt_ok (P := PX X T ca xa) (SqT.of (st.hh _ _ (s.gh _ _ h))) (r2.mono st.gg)⟩)
      | str z => exact .inr (.inr ⟨z, rfl, q1 _ _ _ (Step.refl s.gh) fun i G2 H2 st => its_ok⟩)
      | _ => exact False.elim q1
    · exact .inl ⟨a, vs, rfl, h, q1 _ _ _ (Step.refl s.gh) fun i G2 H2 st => itl_ok' (P := PX X T ca xa) (st.hh.seq h) (r.mono st.gg)⟩⟩
theorem sif_r1 (hg : Gl X "range") (hm : X.mg "range" = none) (ha : SE X T ca xa cx G0 H0 W a f) (hs : noStar a = true) : SIF X T ca xa cx G0 H0 W tg (.Call (.Name "range" p) [a] [] pos) fun env => (f env).bind fun x => (asInt x).bind fun i => if inR i = true then .ok (rangeD 0 i) else .bad :=
  (pi_range1 hg hm (pa_cons ha pa_nil (star_cons hs)) (star_cons (es := []) hs)).imp fun σ H R ⟨G, env, rel, q⟩ => ⟨G, env, rel, Post.bind anti_F q fun r x H1 G1 s rr q1 => by
    obtain ⟨k, e, q2⟩ := post_int rr q1
    split at q2
    · rename_i h
      simp only [inR, Bool.and_eq_true, decide_eq_true_eq] at h
      subst e
      refine ⟨k, rfl, h.1, h.2, q2 _ _ _ (Step.refl s.gh) fun i G2 H2 _ _ _ => ?_⟩
      have := itr_ok (P := PX X T ca xa) (G := G2) (H := H2) (i := i) 0 k
      rw [Int.sub_zero] at this
      exact this
    · exact False.elim q2⟩
theorem sif_r2 (hg : Gl X "range") (hm : X.mg "range" = none) (ha : SE X T ca xa cx G0 H0 W a f) (hb : SE X T ca xa cx G0 H0 W b g) (hs : noStar a = true) (hs2 : noStar b = true) : SIF X T ca xa cx G0 H0 W tg (.Call (.Name "range" p) [a, b] [] pos) fun env => (f env).bind fun x => (asInt x).bind fun i => (g env).bind fun y => (asInt y).bind fun j => if inR i && inR j then .ok (rangeD i j) else .bad :=
  (pi_range2 hg hm (pa_cons ha (pa_cons hb pa_nil (star_cons hs2)) (star_cons hs)) (by rw [star_cons hs, star_cons hs2]; rfl) (star_cons (es := []) hs2)).imp fun σ H R ⟨G, env, rel, q⟩ => ⟨G, env, rel, Post.bind anti_F q fun r x H1 G1 s rr q1 => by
    obtain ⟨k, e, q2⟩ := post_int rr q1
    subst e
    exact ⟨G1, env, rel.step s, Post.bind anti_F q2 fun r2 y H2 G2 s2 rr2 q3 => by
      obtain ⟨l, e2, q4⟩ := post_int rr2 q3
      subst e2
      split at q4
      · rename_i h
        simp only [inR, Bool.and_eq_true, decide_eq_true_eq] at h
        exact ⟨k, l, rfl, ⟨h.1.1, h.1.2, h.2.1, h.2.2⟩, q4 _ _ _ (Step.refl s2.gh) fun i G2 H2 _ _ _ => itr_ok k l⟩
      · exact False.elim q4⟩⟩
theorem sif_r3 {d : Expr} {h : Env → Res Vl} (hg : Gl X "range") (hm : X.mg "range" = none) (ha : SE X T ca xa cx G0 H0 W a f) (hb : SE X T ca xa cx G0 H0 W b g) (hd : SE X T ca xa cx G0 H0 W d h) (hs : noStar a = true) (hs2 : noStar b = true) (hs3 : noStar d = true) :
    SIF X T ca xa cx G0 H0 W tg (.Call (.Name "range" p) [a, b, d] [] pos) fun env => (f env).bind fun x => (asInt x).bind fun i => (g env).bind fun y => (asInt y).bind fun j => (h env).bind fun z => (asInt z).bind fun m => if inR i && (inR j && decide (0 < m ∧ m < 1073741824)) then .ok (rangeC i j m) else .bad :=
  (pi_range3 hg hm (pa_cons ha (pa_cons hb (pa_cons hd pa_nil (star_cons hs3)) (star_cons hs2)) (star_cons hs)) (star_cons hs) (star_any (by simp [hs2, hs3]))).imp fun σ H R ⟨G, env, rel, q⟩ => ⟨G, env, rel, Post.bind anti_F q fun r x H1 G1 s rr q1 => by
    obtain ⟨k, e, q2⟩ := post_int rr q1
    subst e
    exact ⟨G1, env, rel.step s, Post.bind anti_F q2 fun r2 y H2 G2 s2 rr2 q3 => by
      obtain ⟨l, e2, q4⟩ := post_int rr2 q3
      subst e2
      exact ⟨G2, env, (rel.step s).step s2, Post.bind anti_F q4 fun r3 z H3 G3 s3 rr3 q5 => by
        obtain ⟨m, e3, q6⟩ := post_int rr3 q5
        subst e3
        split at q6
        · rename_i hh
          simp only [Bool.and_eq_true, decide_eq_true_eq] at hh
          exact ⟨k, l, m, _, rfl, rgc3 hh.1 hh.2.1 hh.2.2.1 hh.2.2.2, q6 _ _ _ (Step.refl s3.gh) fun i G2 H2 _ _ _ => itc3_ok k l m⟩
        · exact False.elim q6⟩⟩⟩
theorem sif_rr (hg : Gl X "range") (hm : X.mg "range" = none) (hg2 : Gl X "reversed") (hm2 : X.mg "reversed" = none) {p2 pos2 : Pos} (ha : SE X T ca xa cx G0 H0 W a f) (hb : SE X T ca xa cx G0 H0 W b g) (hs : noStar a = true) (hs2 : noStar b = true) :
    SIF X T ca xa cx G0 H0 W tg (.Call (.Name "reversed" p2) [.Call (.Name "range" p) [a, b] [] pos] [] pos2) fun env => (f env).bind fun x => (asInt x).bind fun i => (g env).bind fun y => (asInt y).bind fun j => if inR i && inR j then .ok (rangeD i j).reverse else .bad :=
  (pi_revR hg2 hm2 (prg_2 (pos := pos) (p := p) hg hm ha hb (by rw [star_cons hs]) (star_cons (es := []) hs2) (by rw [star_cons (es := []) hs2]; rfl)) rfl).imp fun σ H R ⟨G, env, rel, q⟩ => ⟨G, env, rel, Post.bind anti_F q fun r x H1 G1 s rr q1 => by
    obtain ⟨k, e, q2⟩ := post_int rr q1
    subst e
    exact ⟨G1, env, rel.step s, Post.bind anti_F q2 fun r2 y H2 G2 s2 rr2 q3 => by
      obtain ⟨l, e2, q4⟩ := post_int rr2 q3
      subst e2
      split at q4
      · rename_i h
        simp only [inR, Bool.and_eq_true, decide_eq_true_eq] at h
        exact ⟨k, l, rfl, rfl, h.1.1, h.1.2, h.2.1, h.2.2, q4 _ _ _ (Step.refl s2.gh) fun i G2 H2 _ _ _ => itc_ok k l⟩
      · exact False.elim q4⟩⟩
theorem sif_rr1 (hg : Gl X "range") (hm : X.mg "range" = none) (hg2 : Gl X "reversed") (hm2 : X.mg "reversed" = none) {p2 pos2 : Pos} (hb : SE X T ca xa cx G0 H0 W b g) (hs2 : noStar b = true) :
    SIF X T ca xa cx G0 H0 W tg (.Call (.Name "reversed" p2) [.Call (.Name "range" p) [b] [] pos] [] pos2) fun env => (Res.ok (Vl.val (D.int 0))).bind fun x => (asInt x).bind fun i => (g env).bind fun y => (asInt y).bind fun j => if inR i && inR j then .ok (rangeD i j).reverse else .bad :=
  (pi_revR hg2 hm2 (prg_1 (pos := pos) (p := p) hg hm hb (star_cons (es := []) hs2)) rfl).imp fun σ H R ⟨G, env, rel, q⟩ => ⟨G, env, rel, Post.bind anti_F (show Post _ W σ G H _ ((g env).bind fun y => (asInt y).bind fun j => if inR 0 && inR j then .ok (rangeD 0 j).reverse else .bad) R from q) fun r2 y H2 G2 s2 rr2 q3 => by
      obtain ⟨l, e2, q4⟩ := post_int rr2 q3
      subst e2
      split at q4
      · rename_i h
        simp only [inR, Bool.and_eq_true, decide_eq_true_eq] at h
        exact ⟨l, rfl, by omega, by omega, h.2.1, h.2.2, q4 _ _ _ (Step.refl s2.gh) fun i G2 H2 _ _ _ => itc_ok 0 l⟩
      · exact False.elim q4⟩
theorem sif_reve (hg : Gl X "reversed") (hm : X.mg "reversed" = none) (ha : SE X T ca xa cx G0 H0 W a f) (hs : noStar a = true) : SIF X T ca xa cx G0 H0 W tg (.Call (.Name "reversed" p) [a] [] pos) fun env => ((f env).bind fun x => .ok x.d).bind fun x => (match x with
    | .lst ds => .ok ds.reverse
    | _ => .bad) :=
  (pi_reversed hg hm (pa_cons (s_toD ha) pa_nil (star_cons hs)) (star_cons (es := []) hs)).imp fun σ H R ⟨G, env, rel, q⟩ => ⟨G, env, rel, Post.bind anti_F q fun d x H1 G1 s r q1 => by
    have r : Rep _ G1 x d := r
    cases r with
    | lst h r2 => exact ⟨_, _, rfl, SqL.of (s.gh _ _ h), q1 _ _ _ (Step.refl s.gh) fun i G2 H2 s1 s2 s3 => itv_ok (P := PX X T ca xa) (SqL.of (s2 _ _ (s1 _ _ h))) (r2.mono s1)⟩
    | _ => exact False.elim q1⟩
theorem sif_revs {i : Nat} {x : Str} {px : Pos} (hg : Gl X "reversed") (hm : X.mg "reversed" = none) (hN : X.N[i]? = some x) (hv : Vis X.env.scope x) (hd : (x == ("__debug__" : Str)) = false) (hcd : (x == ("__classdict__" : Str)) = false) : SIF X T ca xa cx G0 H0 W tg (.Call (.Name "reversed" p) [.Name x px] [] pos) fun env => (match env[i]? with
    | some (.val (.lst ds)) => .ok ds.reverse
    | some (.pk ds) => .ok ds.reverse
    | _ => .bad) :=
  (pi_reversed hg hm (pa_cons (pe_var (pos := px) hN hv hd hcd) pa_nil rfl) rfl).imp fun σ H R ⟨G, env, rel, q⟩ => by
    dsimp only at q
    cases e : env[i]? with
    | none => rw [e] at q; exact q.elim
    | some s =>
      have sl := rel.sl i s e
      rw [e] at q
      cases s with
      | val d =>
        obtain ⟨v, e2, r⟩ := sl
        cases r with
        | lst h r2 => exact ⟨_, e2, _, _, rfl, SqL.of (rel.gh _ _ h), q _ _ _ (Step.refl rel.gh) fun i G2 H2 s1 s2 s3 => itv_ok (P := PX X T ca xa) (SqL.of (s2 _ _ (s1 _ _ h))) (r2.mono s1)⟩
        | _ => exact q.elim
      | pk ds =>
        obtain ⟨a, vs, e2, h1, r⟩ := sl
        exact ⟨_, e2, a, vs, rfl, (rel.hk.trans rel.hh).seq h1, q _ _ _ (Step.refl rel.gh) fun i G2 H2 s1 s2 s3 => itv_ok (P := PX X T ca xa) (s3.seq h1) (r.mono s1)⟩
      | _ => exact q.elim
theorem sic_rev (hg : Gl X "reversed") (hm : X.mg "reversed" = none) (ha : SP' X T ca xa cx G0 H0 W a fa) (hs : noStar a = true) : SIC X T ca xa cx G0 H0 W tg (.Call (.Name "reversed" p) [a] [] pos) fun env => (fa env).bind fun x => (match x with
    | .lst ds => .ok ds.reverse
    | _ => .bad) :=
  (pi_reversed hg hm (pa_cons ha pa_nil (star_cons hs)) (star_cons (es := []) hs)).imp fun σ H R ⟨G, env, rel, q⟩ => ⟨G, env, rel, Post.bind anti_C q fun d x H1 G1 s r q1 => by
    rcases r with r | ⟨a, vs, ds, rfl, rfl, h, r⟩
    · cases r with
      | lst h r2 => exact ⟨_, _, rfl, SqL.of (s.gh _ _ h), q1 _ _ _ (Step.refl s.gh) fun i G2 H2 st => itv_ok (P := PX X T ca xa) (SqL.of (st.hh _ _ (s.gh _ _ h))) (r2.mono st.gg)⟩
      | _ => exact False.elim q1
    · exact ⟨a, vs, rfl, h, q1 _ _ _ (Step.refl s.gh) fun i G2 H2 st => itv_ok (P := PX X T ca xa) (st.hh.seq h) (r.mono st.gg)⟩⟩

/-! ### for -/
/-- the ground moved on: what stands still now, or stood at the start -/
def H1of (G1 H0 : Hp) : Hp := fun a => match G1 a with
  | some o => some o
  | none => H0 a
theorem h1of_none {G1 H0 : Hp} {a : Addr} (h : H1of G1 H0 a = none) : G1 a = none ∧ H0 a = none := by
  unfold H1of at h
  cases e : G1 a with
  | none => rw [e] at h; exact ⟨rfl, h⟩
  | some o => rw [e] at h; cases h
theorem h1of_of {G1 H0 : Hp} {a : Addr} (h1 : G1 a = none) (h2 : H0 a = none) : H1of G1 H0 a = none := by
  unfold H1of
  rw [h1]
  exact h2
theorem h1of_same {G1 H0 H : Hp} (g : Same G1 H) (h : Same H0 H) : Same H0 (H1of G1 H0) ∧ Same (H1of G1 H0) H ∧ Same G1 (H1of G1 H0) := by
  refine ⟨fun a o e => ?_, fun a o e => ?_, fun a o e => ?_⟩
  · unfold H1of
    cases q : G1 a with
    | none => exact e
    | some o' =>
      have e1 := g _ _ q
      have e2 := h _ _ e
      rw [e1] at e2
      cases e2
      rfl
  · unfold H1of at e
    cases q : G1 a with
    | none => rw [q] at e; exact h _ _ e
    | some o' =>
      rw [q] at e
      cases e
      exact g _ _ q
  · unfold H1of
    rw [e]
theorem Rel.fwd {P : Par} {G H : Hp} {σ : St} {env : Env} (r : Rel P cx G0 H0 G H σ env) : Rel P cx G (H1of G H0) G H σ env := by
  obtain ⟨s1, s2, s3⟩ := h1of_same r.gh r.hh
  refine ⟨r.hk.trans s1, s2, Same.refl _, r.gh, fun _ _ => rfl, r.len, fun i s e => ?_, r.dis⟩
  have q := r.sl i s e
  cases s with
  | own ds => obtain ⟨p, vs, e3, k1, k2, k3, k4⟩ := q; exact ⟨p, vs, e3, k1, k2, h1of_of k2 k3, k4⟩
  | obj c ds => obtain ⟨x, dx, fs, vs, ci, e3, k1, k2, k3, k4⟩ := q; exact ⟨x, dx, fs, vs, ci, e3, k1, k2, h1of_of k2 k3, k4⟩
  | _ => exact q
theorem Rel.back {P : Par} {G1 H1 G H : Hp} {σ1 σ : St} {env1 env : Env} (r1 : Rel P cx G0 H0 G1 H1 σ1 env1) (r : Rel P cx G1 (H1of G1 H0) G H σ env) : Rel P cx G0 H0 G H σ env := by
  obtain ⟨s1, s2, s3⟩ := h1of_same r1.gh r1.hh
  refine ⟨r1.hk, s1.trans r.hh, r1.gg.trans r.gg, r.gh, fun a ha => (r.nw a (s1.ne ha)).trans (r1.nw a ha), r.len, fun i s e => ?_, r.dis⟩
  have q := r.sl i s e
  cases s with
  | own ds => obtain ⟨p, vs, e3, k1, k2, k3, k4⟩ := q; exact ⟨p, vs, e3, k1, k2, (h1of_none k3).2, k4⟩
  | obj c ds => obtain ⟨x, dx, fs, vs, ci, e3, k1, k2, k3, k4⟩ := q; exact ⟨x, dx, fs, vs, ci, e3, k1, k2, (h1of_none k3).2, k4⟩
  | _ => exact q
theorem OutP.fwd {P : Par} {G1 H1 : Hp} {σ1 : St} {env1 : Env} {D D' : Ends} {o : Out} (r1 : Rel P cx G0 H0 G1 H1 σ1 env1) (h : OutP P cx G0 H0 W D o) (hr : ∀ v H, D.rt v H → D'.rt v H) (hn : ∀ e, o = .nx e → ∀ σ H G, Rel P cx G1 (H1of G1 H0) G H σ e → D'.nx σ H) (hc : ∀ e, o = .ct e → ∀ σ H G, Rel P cx G1 (H1of G1 H0) G H σ e → D'.ct σ H) : OutP P cx G1 (H1of G1 H0) W D' o := by
  cases o with
  | nx e => exact hn e rfl
  | ct e => exact hc e rfl
  | ret r =>
    intro v H G s rv
    obtain ⟨s1, s2, s3⟩ := h1of_same r1.gh r1.hh
    refine hr _ _ (h v H G ⟨s1.trans s.hh, r1.gg.trans s.gg, s.gh, fun a ha => (s.nw a (s1.ne ha)).trans (r1.nw a ha)⟩ (anti_RV _ _ _ _ _ _ s1 rv))
  | err k fs e => exact fun cls d σ H G r er => h cls d σ H G (r1.back r) er
  | bad => exact h
theorem ss_for {tg' : Tg} {iter : Expr} {bs : List Stmt} {fi : Env → Res (List D)} {fb : Env → Out} {stb : Str → Bool} (hp : PassesOwn (model X.prog X.w) X.A X.env X.xe) (hc : X.calm = true) (hst : StB X stb) (hN : X.N.Nodup) (hi : SIF X T ca xa cx G0 H0 W tg iter fi) (ht : tgB X.N stb tg tg' = true) (hb : ∀ G0 H0, SSs X T ca xa cx G0 H0 W bs fb) (hs : noSet iter = true) :
    SS X T ca xa cx G0 H0 W (.For tg iter bs [] pos) fun env => (fi (frz fr env)).to (frz fr env) fun ds => forLoop tg' fb ds (frz fr env) := by
  refine ⟨fun pins s σ H D I h => ?_⟩
  obtain ⟨G, env, rel, p⟩ := h
  obtain ⟨G', sg, rel'⟩ := rel.frz fr
  -- the source is walked first; its ground is chosen behind it
  refine (ps_for hp hc hi (pg_tg hst hc hN ht) (tb := fun D σ H => ∃ G0 H0, sR (PX X T ca xa) cx G0 H0 W fb D σ H) ⟨fun pins s σ H D I h => by
    obtain ⟨G0, H0, h⟩ := h
    exact (hb G0 H0).run pins s σ H D I h⟩ (folded_ok hs)).run pins s σ H D I ?_
  refine ⟨G', _, rel', to_bind rel' p fun ds J H1 G1 st r q => ?_⟩
  have rel1 := rel'.step st
  refine ⟨fun i m σ H => m = ds.length - i ∧ i ≤ ds.length ∧ ∃ G env, Rel (PX X T ca xa) cx G1 (H1of G1 H0) G H σ env ∧ OutP (PX X T ca xa) cx G0 H0 W D (forLoop tg' fb (ds.drop i) env), ⟨ds.length, by simp, Nat.zero_le _, G1, _, rel1.fwd, by rw [List.drop_zero]; exact q⟩, ?_⟩
  rintro i m σ H ⟨rfl, hi, G, env, rel, q⟩
  have ok := r i G H rel.gg rel.gh (rel.hk.trans rel.hh)
  by_cases hlt : i < ds.length
  · refine .inr ?_
    have ed : ds[i]? = some ds[i] := List.getElem?_eq_getElem hlt
    obtain ⟨g1, g2⟩ := ok.1 _ ed
    rw [List.drop_eq_getElem_cons hlt] at q
    simp only [forLoop] at q
    cases e : setT tg' ds[i] env with
    | none => simp only [e] at q; exact False.elim q
    | some e1 =>
      simp only [e] at q
      refine ⟨g1, fun σ H => ∃ G env, Rel (PX X T ca xa) cx G1 (H1of G1 H0) G H σ env ∧ OutP (PX X T ca xa) cx G0 H0 W D (forLoop tg' fb (ds.drop (i + 1)) env), fun σ' H' h => ⟨ds.length - (i + 1), by omega, rfl, hlt, h⟩, fun x Hx y => ?_⟩
      obtain ⟨eh, rx⟩ := g2 x Hx y
      subst eh
      refine setT_ok (P := PX X T ca xa) rel rx e fun σ' _ r' => ⟨G1, H1of G1 H0, G, e1, r', ?_⟩
      cases eb : fb e1 with
      | nx e2 => rw [eb] at q; exact fun σ2 H2 G2 r2 => ⟨G2, e2, r2, q⟩
      | ct e2 => rw [eb] at q; exact fun σ2 H2 G2 r2 => ⟨G2, e2, r2, q⟩
      | ret v => rw [eb] at q; exact OutP.fwd rel1 q (fun _ _ h => h) (fun _ z => nomatch z) (fun _ z => nomatch z)
      | err k fs e2 => rw [eb] at q; exact OutP.fwd rel1 q (fun _ _ h => h) (fun _ z => nomatch z) (fun _ z => nomatch z)
      | bad => rw [eb] at q; exact False.elim q
  · have e : i = ds.length := by omega
    subst e
    rw [List.drop_length] at q
    exact .inl ⟨ok.2 (Nat.le_refl _), q _ _ _ (rel1.back rel)⟩
end
end PL

set_option linter.all false
set_option Elab.async false
set_option maxRecDepth 100000
set_option maxHeartbeats 1000000
/-! Soundness, part 11: list comprehensions. -/
namespace PL
open PySem PySem.Spec PyProof.Rows L2
theorem Step.upd {G H G1 H1 : Hp} {p : Addr} {o : HO} (s : Step G H G1 H1) (h : H p = none) (g : G1 p = none) : Step G H G1 (upd H1 p o) :=
  ⟨fun a u e => by rw [upd_ne (ne_of_none e h)]; exact s.hh _ _ e, s.gg, fun a u e => by rw [upd_ne (ne_of_none e g)]; exact s.gh _ _ e, s.nw⟩
theorem wipe_get {σ : St} {j : Nat} : ∀ {vs : List Nat}, j ∉ vs → (wipe σ vs)[j]? = σ[j]?
  | [], _ => rfl
  | v :: vs, h => by
    simp only [List.mem_cons, not_or] at h
    unfold wipe
    rw [List.getElem?_set_ne (Ne.symm h.1), wipe_get h.2]
theorem wipeE_length (env : Env) : ∀ vs : List Nat, (wipeE env vs).length = env.length
  | [] => rfl
  | v :: vs => by unfold wipeE; rw [List.length_set, wipeE_length env vs]
theorem wipeE_get {env : Env} {j : Nat} : ∀ {vs : List Nat}, j ∉ vs → (wipeE env vs)[j]? = env[j]?
  | [], _ => rfl
  | v :: vs, h => by
    simp only [List.mem_cons, not_or] at h
    unfold wipeE
    rw [List.getElem?_set_ne (Ne.symm h.1), wipeE_get h.2]
theorem wipeE_in {env : Env} {j : Nat} {s : Sl} : ∀ {vs : List Nat}, j ∈ vs → (wipeE env vs)[j]? = some s → s = .no
  | [], h, _ => by simp at h
  | v :: vs, h, e => by
    unfold wipeE at e
    by_cases q : v = j
    · subst q
      by_cases hl : v < (wipeE env vs).length
      · rw [List.getElem?_set_self hl] at e; cases e; rfl
      · rw [List.getElem?_eq_none (by rw [List.length_set]; omega)] at e; cases e
    · rw [List.getElem?_set_ne q] at e
      exact wipeE_in (by simpa [Ne.symm q] using h) e
theorem wipe_idem {σ : St} : ∀ {vs us : List Nat}, (∀ i ∈ us, i ∈ vs) → wipe (wipe σ us) vs = wipe σ vs
  | vs, [], _ => rfl
  | vs, u :: us, h => by
    rw [show wipe σ (u :: us) = (wipe σ us).set u none from rfl, wipe_set (h u List.mem_cons_self)]
    exact wipe_idem fun i hi => h i (List.mem_cons_of_mem _ hi)
section
variable {X : Cx} {T : Tab} {ca xa : Nat → Addr} {cx : Hand} {G0 H0 : Hp} {W : WX} {a b c d e o : Expr} {fa fb fc fd : Env → Res D} {f g : Env → Res Vl} {pos p : Pos} {fr : List Nat} {tg : Expr}
theorem Rel.wipe {P : Par} {G H : Hp} {σ : St} {env : Env} (rel : Rel P cx G0 H0 G H σ env) (own : List Nat) : Rel P cx G0 H0 G H (wipe σ own) (wipeE env own) := by
  have old : ∀ {j : Nat} {s : Sl}, (wipeE env own)[j]? = some s → s = .no ∨ (env[j]? = some s ∧ (L2.wipe σ own)[j]? = σ[j]?) := fun {j s} e => by
    by_cases q : j ∈ own
    · exact .inl (wipeE_in q e)
    · rw [wipeE_get q] at e
      exact .inr ⟨e, wipe_get q⟩
  refine ⟨rel.hk, rel.hh, rel.gg, rel.gh, rel.nw, by rw [wipe_length, wipeE_length]; exact rel.len, fun j s e => ?_, fun j k s t p ej ek hs ht => ?_⟩
  · rcases old e with q | ⟨q1, q2⟩
    · subst q; trivial
    · rw [q2]; exact rel.sl j s q1
  · rcases old ej with q | ⟨q1, q2⟩
    · subst q; exact False.elim hs
    · rcases old ek with q' | ⟨q3, q4⟩
      · subst q'; exact False.elim ht
      · rw [q2] at hs
        rw [q4] at ht
        exact rel.dis j k s t p q1 q3 hs ht
/-- what is wished of errors where none may come -/
def W0 : WX := fun _ _ _ _ => False
def turnD (tg' : Tg) (own : List Nat) (env : Env) (ft : Env → Res Bool) (fe : Env → Res Vl) (d : D) : Res (Option D) := match setT tg' d (wipeE env own) with
  | none => .bad
  | some e1 => (ft e1).bind fun k => if k = true then (fe e1).bind fun x => .ok (some x.d) else .ok none
theorem lc_ok {P : Par} {tg' : Tg} {own : List Nat} {fi : Env → Res (List D)} {ft : Env → Res Bool} {fe : Env → Res Vl} {σ : St} {H G : Hp} {env : Env} {Q : VK} (hown : ∀ i ∈ tgIx tg', i ∈ own) (rel : Rel P cx G0 H0 G H σ env)
    (p : Post P W σ G H (RV P) ((fi env).bind fun ds => compLoop (turnD tg' own env ft fe) ds []) Q) : tLc (tR P cx G0 H0 W (RItC P) fi) (gT P.K tg') (tR P cx G0 H0 W0 RB ft) (tR P cx G0 H0 W0 (RV P) fe) own σ H Q := by
  refine ⟨G, env, rel, Post.bind anti_RV p fun ds J H1 G1 st r q => ?_⟩
  intro D hD
  have rel1 := rel.step st
  have gD : G1 D = none := st.gh.free hD
  refine ⟨fun i m H => m = ds.length - i ∧ i ≤ ds.length ∧ ∃ G vs acc, Step G1 H1 G H ∧ H D = some (.lst vs) ∧ G D = none ∧ Reps P G vs acc ∧ Post P W σ G1 H1 (RV P) (compLoop (turnD tg' own env ft fe) (ds.drop i) acc) Q,
    ⟨ds.length, by simp, Nat.zero_le _, G1, [], [], Step.mine st.gh hD, upd_same, gD, .nil, by rw [List.drop_zero]; exact q⟩, ?_⟩
  rintro i m H ⟨rfl, hi, G, vs, acc, s2, hv, gn, ra, q⟩
  have ok := r i G H s2
  by_cases hlt : i < ds.length
  · refine .inr ?_
    have ed : ds[i]? = some ds[i] := List.getElem?_eq_getElem hlt
    obtain ⟨g1, g2⟩ := ok.1 _ ed
    rw [List.drop_eq_getElem_cons hlt] at q
    simp only [compLoop] at q
    refine ⟨g1, fun H => ∃ G vs acc, Step G1 H1 G H ∧ H D = some (.lst vs) ∧ G D = none ∧ Reps P G vs acc ∧ Post P W σ G1 H1 (RV P) (compLoop (turnD tg' own env ft fe) (ds.drop (i + 1)) acc) Q, fun H' h => ⟨ds.length - (i + 1), by omega, rfl, hlt, h⟩, fun x Hx y => ?_⟩
    obtain ⟨eh, rx⟩ := g2 x Hx y
    subst eh
    unfold turnD at q
    cases e : setT tg' ds[i] (wipeE env own) with
    | none => simp only [e] at q; exact False.elim q
    | some e1 =>
      simp only [e] at q
      refine setT_ok (P := P) ((rel1.step s2).wipe own) rx e fun σ' hw r' => ⟨(hw own hown).trans (wipe_idem fun _ h => h), G, e1, r', ?_⟩
      cases et : ft e1 with
      | bad => rw [et] at q; exact False.elim q
      | err k fs => rw [et] at q; exact False.elim q
      | ok k =>
        rw [et] at q
        intro b H3 G3 s3 rb
        have rb : b = k := rb
        subst rb
        have s23 := s2.trans s3
        have hD3 : H3 D = some (.lst vs) := s3.hh _ _ hv
        have gD3 : G3 D = none := (s3.nw D (by rw [hv]; simp)).trans gn
        cases b with
        | false => rw [if_neg Bool.false_ne_true]; exact ⟨G3, vs, acc, s23, hD3, gD3, ra.mono s3.gg, q⟩
        | true =>
          rw [if_pos rfl]
          refine ⟨G3, e1, r'.step s3, ?_⟩
          cases ee : fe e1 with
          | bad => simp only [ee, Res.bind_ok, if_true, Res.bind_bad] at q; exact False.elim q
          | err k fs => simp only [ee, Res.bind_ok, if_true, Res.bind_err] at q; exact False.elim q
          | ok z =>
            simp only [ee, Res.bind_ok, if_true] at q
            intro y4 H4 G4 s4 ry
            obtain ⟨G5, s5, g5, rr⟩ := RV.still ry s4
            have hD4 : H4 D = some (.lst vs) := s4.hh _ _ hD3
            have gD5 : G5 D = none := (s5.nw D (by rw [hD3]; simp)).trans gD3
            split at q
            · rename_i hz
              have hlen := ra.length
              exact ⟨vs, hD4, by rw [hlen, sizeLine_eq]; exact hz, G5, vs ++ [y4], acc ++ [z.d], (s23.trans s5).upd hD gD5, upd_same, gD5, (ra.mono (s3.gg.trans s5.gg)).append (.cons rr .nil), q⟩
            · exact False.elim q
  · have e : i = ds.length := by omega
    subst e
    rw [List.drop_length] at q
    exact .inl ⟨ok.2 (Nat.le_refl _), q (.ref D) H G s2 ⟨D, vs, rfl, hv, gn, hD, ra⟩⟩
/-- what is asked of the block's parts -/
structure BlkT (X : Cx) (T : Tab) (ca xa : Nat → Addr) (cx : Hand) (G0 H0 : Hp) (scope : Scope) (tg : Expr) (tg' : Tg) (ifs : List Expr) (elt : Expr) (ft : Env → Res Bool) (fe : Env → Res Vl) : Prop where
  hg : ∀ (s : Shared) (H : Hp) (C : Addr) (cl : List (Str × Addr)) (fp : List Addr), PG (X.blk s H scope (compEnvC scope cl C X.env) fp) tg (gT X.K tg')
  ht : ∀ (s : Shared) (H : Hp) (C : Addr) (cl : List (Str × Addr)) (fp : List Addr), PTs (X.blk s H scope (compEnvC scope cl C X.env) fp) ifs (tR (PX X T ca xa) cx G0 H0 W0 RB ft)
  he : ∀ (s : Shared) (H : Hp) (C : Addr) (cl : List (Str × Addr)) (fp : List Addr), PE (X.blk s H scope (compEnvC scope cl C X.env) fp) elt (tR (PX X T ca xa) cx G0 H0 W0 (RV (PX X T ca xa)) fe)
theorem s_comp {tg' : Tg} {iter elt : Expr} {ifs : List Expr} {scope : Scope} {own : List (Str × Nat)} {fi : Env → Res (List D)} {ft : Env → Res Bool} {fe : Env → Res Vl} (hc : X.calm = true) (hN : X.N.Nodup) (hi : SIC X T ca xa cx G0 H0 W tg iter fi) (ok : BlkOk X.N X.env.scope scope own) (B : BlkT X T ca xa cx G0 H0 scope tg tg' ifs elt ft fe) (hs : noSet iter = true) (hown : ∀ i ∈ tgIx tg', i ∈ own.map (·.2)) :
    SE X T ca xa cx G0 H0 W (.ListComp elt [⟨tg, iter, ifs, 0⟩] scope pos) fun env => (fi env).bind fun ds => compLoop (turnD tg' (own.map (·.2)) env ft fe) ds [] :=
  (pe_lc hc hN hi ok B.hg B.ht B.he (folded_ok hs)).imp fun σ H Q ⟨G, env, rel, p⟩ => lc_ok hown rel p
theorem ss_setLc {i : Nat} {x : Str} {p1 : Pos} {tg' : Tg} {iter elt : Expr} {ifs : List Expr} {scope : Scope} {own : List (Str × Nat)} {fi : Env → Res (List D)} {ft : Env → Res Bool} {fe : Env → Res Vl} {p2 : Pos} (hc : X.calm = true) (hN : X.N.Nodup) (hy : X.N[i]? = some x) (hyl : X.env.scope.names.lookup x = some .local) (hk : X.env.scope.kind = .function) (hl : (p1.line == p2.line) = true) (ha : (scope.names.any fun (n, k) => n == x && (k == .local || k == .cell)) = false)
    (hi : SIC X T ca xa cx G0 H0 W tg iter fi) (ok : BlkOk X.N X.env.scope scope own) (B : BlkT X T ca xa cx G0 H0 scope tg tg' ifs elt ft fe) (hs : noSet iter = true) (hown : ∀ i ∈ tgIx tg', i ∈ own.map (·.2)) :
    SS X T ca xa cx G0 H0 W (.Assign [.Name x p1] (.ListComp elt [⟨tg, iter, ifs, 0⟩] scope p2) pos) fun env => ((fi (frz fr env)).bind fun ds => compLoop (turnD tg' (own.map (·.2)) (frz fr env) ft fe) ds []).to (frz fr env) fun x => .nx ((frz fr env).set i x.sl) :=
  (ps_setLc hc hN hy hyl (sw_true hk hyl hl ha) hi ok B.hg B.ht B.he (folded_ok hs)).imp fun D σ H ⟨G, env, rel, p⟩ => by
    obtain ⟨G', s, rel'⟩ := rel.frz fr
    exact lc_ok hown rel' (to_bind rel' p fun a v H1 G1 st r q => q _ _ _ (rel'.put st r))
end
end PL

set_option linter.all false
set_option Elab.async false
set_option maxRecDepth 100000
set_option maxHeartbeats 1000000
/-! Soundness, part 12: raise, try. -/
namespace PL
open PySem PySem.Spec PyProof.Rows L2
section
variable {X : Cx} {T : Tab} {ca xa : Nat → Addr} {cx : Hand} {G0 H0 : Hp} {W : WX} {a b c d e o : Expr} {fa fb fc fd : Env → Res D} {f g : Env → Res Vl} {pos p : Pos} {fr : List Nat} {tg : Expr}
/-! ### raise -/
/-- a class without fields -/
structure Xo (X : Cx) (T : Tab) (xa : Nat → Addr) (k : Nat) (nm : Str) : Prop where
  at_ : ∃ xi, T.exs[k]? = some xi ∧ xi.fields = []
  q : PySem.W.excIn X.K (xa k) He.veBase "ValueError.__new__" = true
  g : X.mg nm = some (.ref (xa k))
  kp : PySem.W.keepIn X.K (.ref (xa k)) = true
  r : Raises X (.ref (xa k))
theorem ss_rais0 {k : Nat} {nm : Str} {p1 p2 : Pos} (hc : X.calm = true) (tk : Takes X W) (O : Xo X T xa k nm) (hg : Gl X nm) (hdb : (nm == ("__debug__" : Str)) = false) (he : SE X T ca xa cx G0 H0 W e f) (hs : noStar e = true) :
    SS X T ca xa cx G0 H0 W (.Raise (some (.Call (.Name nm p1) [e] [] p2)) none pos) fun env => ((f env).bind fun x => (Res.ok []).bind fun ds => .ok (x.d :: ds)).to env fun ds => .err k ds env :=
  (ps_raise hc tk (SkE.pmk_own1 (p := p1) (pos := p2) PySem.F.excBase_ValueError O.q O.g O.kp O.r hg he (star_cons hs) hdb)).imp fun D σ H ⟨G, env, rel, q⟩ => by
    obtain ⟨xi, h1, h2⟩ := O.at_
    refine ⟨G, env, rel, ?_⟩
    cases ee : f env with
    | bad => simp only [ee, Res.bind_bad, Res.to_bad] at q; exact False.elim q
    | err k' fs => simp only [ee, Res.bind_err, Res.to_err] at q; exact fun cls d H' G' s er => q cls d σ H' G' (rel.step s) er
    | ok x =>
      simp only [ee, Res.bind_ok, Res.to_ok] at q
      exact fun v H' G' s r => q _ none σ H' G' (rel.step s) ⟨xi, h1, rfl, .inl h2⟩
/-! a class with fields: what its __init__ does -/
def xfv (fields : List Str) (vs : List V) : List (Str × V) := (fields.zip vs).reverse
theorem xfv_look : ∀ {fields : List Str} {vs : List V} {j : Nat} {n : Str} {v : V}, fields.Nodup → fields[j]? = some n → vs[j]? = some v → (xfv fields vs).lookup n = some v := by
  have app : ∀ (l r : List (Str × V)) (n : Str), (l ++ r).lookup n = (match l.lookup n with
    | some v => some v
    | none => r.lookup n) := by
    intro l
    induction l with
    | nil => intro r n; rfl
    | cons a l ih =>
      intro r n
      obtain ⟨m, w⟩ := a
      simp only [List.cons_append, List.lookup]
      cases n == m with
      | true => rfl
      | false => exact ih r n
  intro fields
  induction fields with
  | nil => intro vs j n v _ h; simp at h
  | cons g gs ih =>
    intro vs j n v nd h1 h2
    cases vs with
    | nil => simp at h2
    | cons w ws =>
      have nd2 := List.nodup_cons.mp nd
      unfold xfv
      rw [List.zip_cons_cons, List.reverse_cons, app]
      cases j with
      | zero =>
        simp at h1 h2
        subst h1
        subst h2
        have hn : ((gs.zip ws).reverse).lookup g = none := by
          rw [List.lookup_eq_none_iff]
          intro q hq
          have := List.mem_reverse.mp hq
          have := (List.of_mem_zip this).1
          simp only [bne_iff_ne, ne_eq, Bool.not_eq_true, beq_eq_false_iff_ne]
          intro z
          exact nd2.1 (z ▸ this)
        rw [hn]
        simp [List.lookup]
      | succ j =>
        have := ih (vs := ws) (j := j) (n := n) (v := v) nd2.2 (by simpa using h1) (by simpa using h2)
        unfold xfv at this
        rw [this]
/-- its promise -/
def spX (C : Addr) (fields : List Str) (n : Nat) : Sp := fun vs H Q _ => fields.length + 1 = n ∧ ∃ a ws, vs = .ref a :: ws ∧ ws.length = fields.length ∧ H a = some (exo a C none) ∧ ∀ dx, H dx = none → dx ≠ a → Q .non (upd (upd H dx (exd dx (xfv fields ws))) a (exo a C (some dx)))
theorem spX_len {C : Addr} {fields : List Str} {n : Nat} : ∀ vs H Q E, spX C fields n vs H Q E → vs.length = n := fun vs H Q E ⟨e, a, ws, e1, e2, _⟩ => by
  rw [e1, List.length_cons, e2]
  exact e
structure Xi (X : Cx) (T : Tab) (xa : Nat → Addr) (k : Nat) (nm : Str) (n : Nat) : Prop where
  at_ : ∃ xi lv fI fd ps, T.exs[k]? = some xi ∧ xi.fields.Nodup ∧ xi.fields.length = n ∧ n ≤ 900 ∧ OexC X.K (xa k) ∧ PySem.W.findIn X.K (.ref (xa k)) "__init__" = some (some (.ref fI)) ∧ PySem.W.typeIn X.K (.ref fI) = some (.type "function") ∧
    FnOk X.prog X.w X.K X.mg X.base (L2.CX X.prog X.w) lv fI fd ps (spX (xa k) xi.fields ps.length) ∧ Room (lv + 1) X.A ∧ Binds X.K fd ps [] ∧ X.mg nm = some (.ref (xa k)) ∧ xi.fields.length + 1 = ps.length
theorem never_passes : ∀ (pins : List (Addr × Obj)) (σ : St) (H : Hp) (s : Shared) (e : Value) (s' : Shared), Inv X pins σ H s → L2.CX X.prog X.w X.stack H s (fun _ _ _ => False) e s' → X.xe e s' :=
  fun _ _ _ _ _ _ _ ⟨_, _, _, _, _, _, _, _, _, _, _, _, h⟩ => h.elim
theorem ss_raisX {k n : Nat} {nm : Str} {p1 p2 : Pos} {es : List Expr} {h : Env → Res (List D)} (hc : X.calm = true) (tk : Takes X W) (O : Xi X T xa k nm n) (hg : Gl X nm) (hdb : (nm == ("__debug__" : Str)) = false) (he : SA X T ca xa cx G0 H0 W es h) (hs : es.all noStar = true) (hne : es ≠ []) (hlen : ∀ env ds, h env = .ok ds → ds.length = n) :
    SS X T ca xa cx G0 H0 W (.Raise (some (.Call (.Name nm p1) es [] p2)) none pos) fun env => (h env).to env fun ds => .err k ds env := by
  obtain ⟨xi, lv, fI, fd, ps, h1, h2, h3, h4, h5, h6, h7, h8, h9, h10, h11, h12⟩ := O.at_
  cases es with
  | nil => exact absurd rfl hne
  | cons e es =>
    simp only [List.all_cons, Bool.and_eq_true] at hs
    refine (ps_raise hc tk (pmk_oex (p := p1) (pos := p2) (dvs := []) h5 h6 h7 h8 h9 h10 .nil never_passes hg h11 he hdb (star_cons hs.1) (star_any hs.2))).imp fun D σ H ⟨G, env, rel, q⟩ => ?_
    refine ⟨G, env, rel, ?_⟩
    have q : OutP (PX X T ca xa) cx G0 H0 W D ((h env).to env fun ds => Out.err k ds env) := q
    cases ee : h env with
    | bad => rw [ee] at q; exact False.elim q
    | err k' fs => rw [ee] at q; exact fun cls d H' G' s er => q cls d σ H' G' (rel.step s) er
    | ok ds =>
      rw [ee] at q
      have q : ∀ cls d σ H G, Rel (PX X T ca xa) cx G0 H0 G H σ env → ErrRep (PX X T ca xa) G H cls d k ds → W cls d σ H := q
      intro vs H1 G1 s r
      have r : Reps _ G1 vs ds := r
      have hl : vs.length = xi.fields.length := by rw [r.length, hlen env ds ee, h3]
      refine ⟨by omega, fun a ha => ⟨h12, a, vs, by rw [List.append_nil], hl, upd_same, fun dx hdx hne => ⟨rfl, dx, xfv xi.fields vs, upd_same, ?_, ?_, ?_⟩⟩⟩
      · rw [upd_ne hne, upd_same]
      · rw [upd_ne hne] at hdx; exact hdx
      · have hdx1 : H1 dx = none := by rw [upd_ne hne] at hdx; exact hdx
        generalize hH : upd (del (upd (upd (upd H1 a (exo a (xa k) none)) dx (exd dx (xfv xi.fields vs))) a (exo a (xa k) (some dx))) a) dx (.xd (xfv xi.fields vs)) = H3
        have hget : ∀ {b : Addr} {o : HO}, H1 b = some o → H3 b = some o := fun {b o} z => by
          have n1 : b ≠ dx := ne_of_none z hdx1
          have n2 : b ≠ a := ne_of_none z ha
          rw [← hH, upd_ne n1, del_ne n2, upd_ne n2, upd_ne n1, upd_ne n2]
          exact z
        have st : Step G1 H1 G1 H3 := ⟨fun b o z => hget z, Same.refl _, fun b o z => hget (s.gh _ _ z), fun _ _ => rfl⟩
        refine q _ _ σ H3 G1 (rel.step (s.trans st)) ⟨xi, h1, rfl, .inr ⟨dx, _, vs, rfl, by rw [← hH, upd_same], r, fun j m v e1 e2 => xfv_look h2 e1 e2⟩⟩

/-! ### try -/
/-- an exception that is in our hands -/
structure Caught (X : Cx) (pins : List (Addr × Obj)) (a : Addr) (cls : Value) (d : Option Addr) (σ : St) (H : Hp) (s : Shared) : Prop where
  ex : ∃ (B : Heap) (sI : Shared), Inv X pins σ H sI ∧ (∀ b o, sI.heap.get? b = some o → b ∉ frs X.stack → B.get? b = some o) ∧ sI.heap.UpToSlots s.heap ∧ HandSPX.FlyingZ B (X.env :: X.outer) a (Zc cls d) s.heap ∧ s.os = sI.os ∧ AllBare s.gens
  na : H a = none
section
variable {pins : List (Addr × Obj)} {σ : St} {H : Hp} {s : Shared} {x : Addr} {cls : Value} {dd : Option Addr}
theorem Caught.inv (C : Caught X pins x cls dd σ H s) : Inv X pins σ H s := by
  obtain ⟨B, sI, J, nb, up, fl, os, ag⟩ := C.ex
  exact J.landed nb fl.1 up os ag
theorem Caught.obj (C : Caught X pins x cls dd σ H s) (hf : X.env.frame = some X.env.locals) : ∃ oe vs, s.heap.get? x = some oe ∧ Zc cls dd oe ∧ oe.data = .fields vs ∧ x ≠ X.env.locals ∧ x ∉ X.fs := by
  obtain ⟨B, sI, J, nb, up, fl, os, ag⟩ := C.ex
  obtain ⟨oe, vs, he, hz, hd⟩ := fl.there
  have off : x ∉ frs (X.env :: X.outer) := fun hm => by
    obtain ⟨_, o', e', hnf⟩ := fl.2.2.1.mem hm
    rw [he] at e'
    cases e'
    exact hnf _ hd
  refine ⟨oe, vs, he, hz, hd, fun z => off (List.mem_filterMap.mpr ⟨X.env, List.mem_cons_self, by rw [hf, z]⟩), fun hm => off ?_⟩
  obtain ⟨e, he', q⟩ := List.mem_filterMap.mp hm
  exact List.mem_filterMap.mpr ⟨e, List.mem_cons_of_mem _ he', q⟩
/-- no clause is left -/
theorem Caught.pass {Wout : WX} {pos : Pos} {Q : Flow → Shared → Prop} (C : Caught X pins x cls dd σ H s) (hs : X.stack = X.env :: X.outer) (hf : X.env.frame = some X.env.locals) (tk : Takes X Wout) (w : Wout cls dd σ H) :
    wpAny (model X.prog X.w) X.A (handleBy (.ref x) X.env []) Q X.xe s := by
  obtain ⟨B, sI, J, nb, up, fl, os, ag⟩ := C.ex
  refine wpAny_handleBy_nil ?_
  obtain ⟨_, _, _, oe, vs, t, _, _, he, _, hd, h1, _⟩ := id fl
  have up1 : wpAny (model X.prog X.w) X.A (setFlight (.ref x) X.env.frame) (fun _ s4 => wpAny (model X.prog X.w) X.A (throw (.ref x) : Sem Flow) Q X.xe s4) X.xe s := by
    rw [hf]
    refine HandSPX.setFlight_upZ fl fun h4 hh4 up4 => wpAny_throw (tk _ _ ⟨x, B, sI, pins, σ, H, cls, dd, rfl, J, nb, up.trans up4, .inr (.inr ?_), C.na, os, ag, w⟩)
    rw [hs]
    exact hh4
  unfold PySem.passOn
  refine wpAny_bind (wpAny_field he hd h1 ?_)
  have nn : ¬ ((Value.ref t == Value.none) = true) := by simp
  rw [if_neg nn]
  first
    | exact wpAny_bind (wpAny_pure (wpAny_bind up1))
    | exact wpAny_bind up1
/-- does the clause's class fit -/
theorem Caught.test {nm : Str} {np : Pos} {c : Value} {b : Bool} {R : Result → Shared → Prop} {pos : Pos} (C : Caught X pins x cls dd σ H s) (hf : X.env.frame = some X.env.locals) (hc : Names X nm c) (hb : PySem.W.exmOne X.K cls c = some b)
    (h : R (.ok (if b then .brk else .next)) s) : codeAny (model X.prog X.w) (X.A.mark (some (.ref x))) (.handlers (.ref x) [.ExceptHandler (some (.Name nm np)) none [] pos] X.env) R s := by
  obtain ⟨oe, vs, he, hz, hd, nl, nf⟩ := C.obj hf
  have LT : PySem.W.Looks (model X.prog X.w) s.heap (typeOf (.ref x)) cls := fun A Q E s' k q => wpAny_typeOf_ref (k _ _ he) (by rw [hz.1]; exact q)
  have fits := PySem.W.exm_one (M := model X.prog X.w) C.inv.kIn LT hb
  have S := C.inv.suite he hd C.na nl nf
  have name : ∀ {Q : Value → Shared → Prop} {E : Value → Shared → Prop}, Q c s → wpAny (model X.prog X.w) (X.A.mark (some (.ref x))) (eval (.Name nm np) X.env) Q E s := fun {Q E} q => by
    obtain ⟨hg, hdb, hm⟩ := hc
    rcases hm with hm | ⟨hm, hv, hn⟩
    · exact ld_glob (X := X.suite x ((x, oe) :: (X.pn ++ pins))) S hg hm q hdb
    · exact ld_blt (X := X.suite x ((x, oe) :: (X.pn ++ pins))) S hg hm hv q hn hdb
  refine codeAny_handlers_test (name (fits.here ?_))
  exact h
/-- the suite begins -/
theorem Caught.enter {P : Unit → Shared → Prop} {E : Value → Shared → Prop} {A : Around} (C : Caught X pins x cls dd σ H s) (h : ∀ s', Caught X pins x cls dd σ H s' → P () s') : wpAny (model X.prog X.w) A (setFlight (.ref x) none) P E s := by
  obtain ⟨B, sI, J, nb, up, fl, os, ag⟩ := C.ex
  exact HandSPX.lands_againZ fl fun h4 fl4 up4 => h _ ⟨⟨B, sI, J, nb, up.trans up4, fl4, os, ag⟩, C.na⟩
end
/-- a clause: its class, the name's slot, what the suite does -/
abbrev Cls3 : Type := Value × Option Nat × (Addr → Value → Option Addr → TS)
def offNx (D : Ends) (i : Nat) : Ends where
  nx := fun σ H => D.nx (σ.set i none) H
  rt := D.rt
  bk := fun σ H => D.bk (σ.set i none) H
  ct := fun σ H => D.ct (σ.set i none) H
def wClauses (K : PySem.W.Frag) (Wout : WX) (D : Ends) : List Cls3 → WX
  | [] => Wout
  | (c, n, ts) :: r => fun cls d σ H => ∃ b, PySem.W.exmOne K cls c = some b ∧ (b = false → wClauses K Wout D r cls d σ H) ∧ (b = true → ∀ a, H a = none → match n with
    | none => ts a cls d D σ H
    | some i => ts a cls d (offNx D i) (σ.set i (some (.ref a))) H)
def SuiteOk (X : Cx) (su : List Stmt) (ts : Addr → Value → Option Addr → TS) : Prop :=
  ∀ (a : Addr) (oe : Obj) (cls : Value) (d : Option Addr) (pn : List (Addr × Obj)), Zc cls d oe → (∃ vs, oe.data = .fields vs) → PSs (X.suite a ((a, oe) :: pn)) su (ts a cls d)
inductive Clauses (X : Cx) : List ExceptHandler → List Cls3 → Prop
  | nil : Clauses X [] []
  | bare {nm : Str} {c : Value} {ts : Addr → Value → Option Addr → TS} {st : Stmt} {su : List Stmt} {np hp : Pos} {hds : List ExceptHandler} {l : List Cls3} (hc : Names X nm c) (hsu : SuiteOk X (st :: su) ts) (r : Clauses X hds l) :
      Clauses X (.ExceptHandler (some (.Name nm np)) none (st :: su) hp :: hds) ((c, none, ts) :: l)
  | named {nm n : Str} {i : Nat} {c : Value} {ts : Addr → Value → Option Addr → TS} {st : Stmt} {su : List Stmt} {np hp : Pos} {hds : List ExceptHandler} {l : List Cls3} (hc : Names X nm c) (hi : X.N[i]? = some n) (hl : X.env.kindOf n = some .local) (hsu : SuiteOk X (st :: su) ts) (r : Clauses X hds l) :
      Clauses X (.ExceptHandler (some (.Name nm np)) (some n) (st :: su) hp :: hds) ((c, some i, ts) :: l)
theorem Caught.clauses {pins : List (Addr × Obj)} {σ : St} {H : Hp} {x : Addr} {cls : Value} {dd : Option Addr} {Wout : WX} {D : Ends} (hs : X.stack = X.env :: X.outer) (hf : X.env.frame = some X.env.locals) (hN : X.N.Nodup) (tk : Takes X Wout) {hds : List ExceptHandler} {l : List Cls3} (k : Clauses X hds l) :
    ∀ {s : Shared}, Caught X pins x cls dd σ H s → wClauses X.K Wout D l cls dd σ H → wpAny (model X.prog X.w) X.A (handleBy (.ref x) X.env hds) (SP X pins D) X.xe s := by
  induction k with
  | nil => exact fun C w => C.pass (pos := default) hs hf tk w
  | @bare nm c ts st su np hp hds l hc hsu r ih =>
    intro s C w
    obtain ⟨b, hb, no, yes⟩ := w
    refine wpAny_handleBy_cons (C.test hf hc hb ?_) (by intro q; cases q)
    cases b with
    | false => exact ih C (no rfl)
    | true =>
      refine codeAny_handlers_suite (C.enter fun s' C' => ?_)
      obtain ⟨oe, vs, he, hz, hd, nl, nf⟩ := C'.obj hf
      have S := C'.inv.suite he hd C'.na nl nf
      have ok := C'.inv.ok
      refine wpAny_mono ((hsu x oe cls dd _ hz ⟨_, hd⟩).run [] s' σ H D S (yes rfl x C'.na)) (fun f s6 hsp => ?_) fun _ _ z => False.elim z
      cases f with
      | ret u =>
        obtain ⟨v6, σ6, H6, S6, r6, q6⟩ := hsp
        exact ⟨_, _, _, S6.unsuite ok, r6, q6⟩
      | next => obtain ⟨σ6, H6, S6, q6⟩ := hsp; exact ⟨_, _, S6.unsuite ok, q6⟩
      | brk => obtain ⟨σ6, H6, S6, q6⟩ := hsp; exact ⟨_, _, S6.unsuite ok, q6⟩
      | cont => obtain ⟨σ6, H6, S6, q6⟩ := hsp; exact ⟨_, _, S6.unsuite ok, q6⟩
  | @named nm n i c ts st su np hp hds l hc hi hl hsu r ih =>
    intro s C w
    obtain ⟨b, hb, no, yes⟩ := w
    refine wpAny_handleBy_cons (C.test hf hc hb ?_) (by intro q; cases q)
    cases b with
    | false => exact ih C (no rfl)
    | true =>
      refine codeAny_handlers_suite_as (C.enter fun s' C' => ?_)
      obtain ⟨oe, vs, he, hz, hd, nl, nf⟩ := C'.obj hf
      have S := C'.inv.suite he hd C'.na nl nf
      have ok := C'.inv.ok
      refine store_ok (X := X.suite x ((x, oe) :: (X.pn ++ pins))) (v := .ref x) S hN hi (.inl hl) rfl (fun s5 S5 => ?_) (.inr hl)
      have fin : ∀ {σ6 : St} {H6 : Hp} {s6 : Shared} {Q : Shared → Prop}, Inv (X.suite x ((x, oe) :: (X.pn ++ pins))) [] σ6 H6 s6 → (∀ s7, Inv X pins (σ6.set i none) H6 s7 → Q s7) →
          wpAny (model X.prog X.w) X.A (do bindName X.env n .none; unbindBehindTheSuite X.env n hp) (fun _ s7 => Q s7) X.xe s6 := fun {σ6 H6 s6 Q} S6 hq => gone_ok (S6.unsuite ok) hN hi hl hq
      refine wpAny_mono ((hsu x oe cls dd _ hz ⟨_, hd⟩).run [] s5 _ H (offNx D i) S5 (yes rfl x C'.na)) (fun f s6 hsp => ?_) fun _ _ z => False.elim z
      cases f with
      | ret u =>
        obtain ⟨v6, σ6, H6, S6, r6, q6⟩ := hsp
        exact fin S6 fun s7 J7 => ⟨_, _, _, J7, r6, q6⟩
      | next => obtain ⟨σ6, H6, S6, q6⟩ := hsp; exact fin S6 fun s7 J7 => ⟨_, _, J7, q6⟩
      | brk => obtain ⟨σ6, H6, S6, q6⟩ := hsp; exact fin S6 fun s7 J7 => ⟨_, _, J7, q6⟩
      | cont => obtain ⟨σ6, H6, S6, q6⟩ := hsp; exact fin S6 fun s7 J7 => ⟨_, _, J7, q6⟩
theorem ps_try_cl {body : List Stmt} {h0 : ExceptHandler} {hds : List ExceptHandler} {l : List Cls3} {tb : WX → TS} {Wout : WX} (hs : X.stack = X.env :: X.outer) (hf : X.env.frame = some X.env.locals) (hN : X.N.Nodup) (tk : Takes X Wout)
    (hb : ∀ (W : WX) (pn : List (Addr × Obj)) (xe : Value → Shared → Prop), Takes (X.tr pn xe) W → PassesOwn (model X.prog X.w) X.A X.env xe → PSs (X.tr pn xe) body (tb W)) (k : Clauses X (h0 :: hds) l) :
    PS X (.Try body (h0 :: hds) [] [] pos) (fun D σ H => tb (wClauses X.K Wout D l) D σ H) := by
  refine ⟨fun pins s σ H D I h => ?_⟩
  have ok := I.ok
  have hfr : X.A.frames = some (X.env :: X.outer) := by rw [ok.frames, hs]
  refine wpAny_Try_except ?_
  refine wpAny_mono ((hb (wClauses X.K Wout D l) (X.pn ++ pins) _ (fun u s' xx => ?_) PassesOwn.looking).run [] s σ H D (I.toTry _) h) (fun f s1 hsp => ?_) (fun e s1 he => he)
  · obtain ⟨x, B, sI, pins', σ', H', cls, d, rfl, J', nb, up, sky, na, os, ag, w⟩ := xx
    have sky2 : Sky B (X.env :: X.outer) x (Zc cls d) X.env.locals s'.heap := by rw [← hs]; exact sky
    refine Sky.land Zc.steady hfr hf sky2 fun h3 fl3 up3 => ?_
    exact Caught.clauses hs hf hN tk k ⟨⟨B, sI, J'.ofTry ok, nb, up.trans up3, fl3, os, ag⟩, na⟩ w
  · cases f with
    | ret u => obtain ⟨v, σ', H', J', r, q⟩ := hsp; exact ⟨v, σ', H', J'.ofTry ok, r, q⟩
    | next => obtain ⟨σ', H', J', q⟩ := hsp; exact wpAny_execs_nil ⟨σ', H', J'.ofTry ok, q⟩
    | brk => obtain ⟨σ', H', J', q⟩ := hsp; exact ⟨σ', H', J'.ofTry ok, q⟩
    | cont => obtain ⟨σ', H', J', q⟩ := hsp; exact ⟨σ', H', J'.ofTry ok, q⟩

theorem Rel.withX {P : Par} {G H : Hp} {σ : St} {env : Env} (r : Rel P cx G0 H0 G H σ env) (hx : cx.ex = none) (ex : Option (Addr × Value × Option Addr)) : Rel P ⟨cx.hk, ex, cx.ob⟩ G0 H0 G H σ env :=
  ⟨r.hk, r.hh, r.gg, r.gh, r.nw, r.len, fun i s e => by
    have q := r.sl i s e
    cases s with
    | exc k fs =>
      obtain ⟨a, cls, d, e1, _⟩ := q
      rw [hx] at e1
      cases e1
    | _ => exact q, r.dis⟩
theorem Rel.bindX {P : Par} {G H : Hp} {σ : St} {env : Env} {i k : Nat} {fs : List D} {x : Addr} {cls : Value} {dd : Option Addr} (r : Rel P cx G0 H0 G H σ env) (hx : cx.ex = some (x, cls, dd)) (er : ErrRep P G H cls dd k fs) : Rel P cx G0 H0 G H (σ.set i (some (.ref x))) (env.set i (.exc k fs)) := by
  have old : ∀ {j : Nat} {s : Sl}, (env.set i (.exc k fs))[j]? = some s → (s = .exc k fs ∧ (σ.set i (some (.ref x)))[j]? = some (some (.ref x))) ∨ (env[j]? = some s ∧ (σ.set i (some (.ref x)))[j]? = σ[j]?) := fun {j s} e => by
    by_cases q : i = j
    · subst q
      by_cases hl : i < env.length
      · rw [List.getElem?_set_self hl] at e
        cases e
        exact .inl ⟨rfl, List.getElem?_set_self (by rw [r.len]; exact hl)⟩
      · rw [List.getElem?_eq_none (by rw [List.length_set]; omega)] at e
        cases e
    · rw [List.getElem?_set_ne q] at e
      exact .inr ⟨e, List.getElem?_set_ne q⟩
  refine ⟨r.hk, r.hh, r.gg, r.gh, r.nw, by rw [List.length_set, List.length_set]; exact r.len, fun j s e => ?_, fun j l s t p ej el hs ht => ?_⟩
  · rcases old e with ⟨q1, q2⟩ | ⟨q1, q2⟩
    · subst q1; exact ⟨x, cls, dd, hx, q2, er⟩
    · rw [q2]; exact r.sl j s q1
  · rcases old ej with ⟨q1, _⟩ | ⟨q1, q2⟩
    · subst q1; exact False.elim hs
    · rcases old el with ⟨q3, _⟩ | ⟨q3, q4⟩
      · subst q3; exact False.elim ht
      · rw [q2] at hs
        rw [q4] at ht
        exact r.dis j l s t p q1 q3 hs ht
theorem Rel.clr {P : Par} {G H : Hp} {σ : St} {env : Env} {ex : Option (Addr × Value × Option Addr)} (r : Rel P ⟨cx.hk, ex, cx.ob⟩ G0 H0 G H σ env) : Rel P cx G0 H0 G H σ (clr env) := by
  have at_ : ∀ {j : Nat} {s : Sl}, (PL.clr env)[j]? = some s → ∃ s', env[j]? = some s' ∧ s = clr1 s' := fun {j s} e => by
    unfold PL.clr at e
    rw [List.getElem?_map] at e
    cases q : env[j]? with
    | none => rw [q] at e; cases e
    | some s' => rw [q] at e; cases e; exact ⟨s', rfl, rfl⟩
  refine ⟨r.hk, r.hh, r.gg, r.gh, r.nw, by unfold PL.clr; rw [List.length_map]; exact r.len, fun j s e => ?_, fun j l s t p ej el hs ht => ?_⟩
  · obtain ⟨s', e1, e2⟩ := at_ e
    subst e2
    have q := r.sl j s' e1
    cases s' with
    | exc k fs => trivial
    | _ => exact q
  · obtain ⟨s', e1, e2⟩ := at_ ej
    obtain ⟨t', e3, e4⟩ := at_ el
    subst e2
    subst e4
    have f : ∀ {u : Sl} {o : Option (Option V)}, held (clr1 u) o p → held u o p := fun {u o} h => by
      cases u with
      | exc k fs => exact False.elim h
      | _ => exact h
    exact r.dis j l s' t' p e1 e3 (f hs) (f ht)
theorem Rel.off {P : Par} {G H : Hp} {σ : St} {env : Env} (i : Nat) (r : Rel P cx G0 H0 G H σ env) : Rel P cx G0 H0 G H (σ.set i none) (env.set i .no) := by
  have := r.wipe [i]
  exact this
theorem sR_out {P : Par} {G H : Hp} {σ : St} {env : Env} {D : Ends} {f : Env → Out} (r : Rel P cx G0 H0 G H σ env) (p : OutP P cx G0 H0 W D (f env)) : sR P cx G0 H0 W f D σ H := ⟨G, env, r, p⟩
/-- what is asked of the clauses -/
inductive HdR (X : Cx) (T : Tab) (ca xa : Nat → Addr) (cx : Hand) (G0 H0 : Hp) : List ExceptHandler → List (Nat × Option Nat × (Env → Out)) → Prop
  | nil : HdR X T ca xa cx G0 H0 [] []
  | bare {nm : Str} {h : Nat} {f : Env → Out} {st : Stmt} {su : List Stmt} {np hp : Pos} {hds : List ExceptHandler} {l : List (Nat × Option Nat × (Env → Out))} (hc : Names X nm (.ref (xa h))) (hm : ∀ k xi, T.exs[k]? = some xi → PySem.W.exmOne X.K (.ref (xa k)) (.ref (xa h)) = some (exm k h))
      (hsu : ∀ (a : Addr) (oe : Obj) (cls : Value) (d : Option Addr) (pn : List (Addr × Obj)), Zc cls d oe → (∃ vs, oe.data = .fields vs) → PSs (X.suite a ((a, oe) :: pn)) (st :: su) (sR (PX X T ca xa) ⟨cx.hk, some (a, cls, d), cx.ob⟩ G0 H0 W0 f)) (r : HdR X T ca xa cx G0 H0 hds l) :
      HdR X T ca xa cx G0 H0 (.ExceptHandler (some (.Name nm np)) none (st :: su) hp :: hds) ((h, none, f) :: l)
  | named {nm n : Str} {h i : Nat} {f : Env → Out} {st : Stmt} {su : List Stmt} {np hp : Pos} {hds : List ExceptHandler} {l : List (Nat × Option Nat × (Env → Out))} (hc : Names X nm (.ref (xa h))) (hm : ∀ k xi, T.exs[k]? = some xi → PySem.W.exmOne X.K (.ref (xa k)) (.ref (xa h)) = some (exm k h)) (hi : X.N[i]? = some n) (hl : X.env.kindOf n = some .local)
      (hsu : ∀ (a : Addr) (oe : Obj) (cls : Value) (d : Option Addr) (pn : List (Addr × Obj)), Zc cls d oe → (∃ vs, oe.data = .fields vs) → PSs (X.suite a ((a, oe) :: pn)) (st :: su) (sR (PX X T ca xa) ⟨cx.hk, some (a, cls, d), cx.ob⟩ G0 H0 W0 f)) (r : HdR X T ca xa cx G0 H0 hds l) :
      HdR X T ca xa cx G0 H0 (.ExceptHandler (some (.Name nm np)) (some n) (st :: su) hp :: hds) ((h, some i, f) :: l)
def hdsF : List (Nat × Option Nat × (Env → Out)) → Nat → List D → Env → Out
  | [], k, fs, env => .err k fs env
  | (h, n, f) :: r, k, fs, env => if exm k h = true then (match f (bindX n k fs env) with
      | .nx e1 => .nx (dropX n e1)
      | .ct e1 => .ct (dropX n e1)
      | .ret x => .ret x
      | _ => .bad)
    else hdsF r k fs env
def cl3 (P : Par) (cx : Hand) (G0 H0 : Hp) (p : Nat × Option Nat × (Env → Out)) : Cls3 := (.ref (P.xa p.1), p.2.1, fun a cls d => sR P ⟨cx.hk, some (a, cls, d), cx.ob⟩ G0 H0 W0 p.2.2)
theorem HdR.cl {hds : List ExceptHandler} {l : List (Nat × Option Nat × (Env → Out))} (h : HdR X T ca xa cx G0 H0 hds l) : Clauses X hds (l.map (cl3 (PX X T ca xa) cx G0 H0)) := by
  induction h with
  | nil => exact .nil
  | bare hc hm hsu r ih => exact .bare hc hsu ih
  | named hc hm hi hl hsu r ih => exact .named hc hi hl hsu ih
theorem wCl_of {hds : List ExceptHandler} {l : List (Nat × Option Nat × (Env → Out))} (h : HdR X T ca xa cx G0 H0 hds l) (hx : cx.ex = none) {D : Ends} {k : Nat} {fs : List PL.D} {e1 : Env} :
    OutP (PX X T ca xa) cx G0 H0 W D (hdsF l k fs e1) → ∀ cls d σ H G, Rel (PX X T ca xa) cx G0 H0 G H σ e1 → ErrRep (PX X T ca xa) G H cls d k fs → wClauses X.K W D (l.map (cl3 (PX X T ca xa) cx G0 H0)) cls d σ H := by
  -- a suite's end
  have suite : ∀ {n : Option Nat} {f : Env → Out} {e2 : Env}, OutP (PX X T ca xa) cx G0 H0 W D (match f e2 with
      | .nx e1 => .nx (dropX n e1)
      | .ct e1 => .ct (dropX n e1)
      | .ret x => .ret x
      | _ => .bad) → ∀ {ex : Option (Addr × Value × Option Addr)}, OutP (PX X T ca xa) ⟨cx.hk, ex, cx.ob⟩ G0 H0 W0 (match n with | none => D | some i => offNx D i) (f e2) := fun {n f e2} p {ex} => by
    cases q : f e2 with
    | nx e3 =>
      rw [q] at p
      cases n with
      | none => exact fun σ H G r => p σ H G r.clr
      | some i => exact fun σ H G r => p _ H G (r.off i).clr
    | ct e3 =>
      rw [q] at p
      cases n with
      | none => exact fun σ H G r => p σ H G r.clr
      | some i => exact fun σ H G r => p _ H G (r.off i).clr
    | ret v =>
      rw [q] at p
      cases n with
      | none => exact p
      | some i => exact p
    | err k fs e3 => rw [q] at p; exact False.elim p
    | bad => rw [q] at p; exact False.elim p
  induction h with
  | nil => exact fun p cls d σ H G r er => p cls d σ H G r er
  | @bare nm h f st su np hp hds l hc hm hsu r ih =>
    intro p cls d σ H G rel er
    obtain ⟨xi, h1, h2, h3⟩ := id er
    refine ⟨exm k h, by rw [h2]; exact hm k xi h1, fun e => ?_, fun e a ha => ?_⟩
    · have e' : ¬ exm k h = true := by rw [e]; exact Bool.false_ne_true
      simp only [hdsF, if_neg e'] at p
      exact ih p cls d σ H G rel er
    · simp only [hdsF, if_pos e] at p
      exact ⟨G, e1, rel.withX hx _, suite (n := none) p⟩
  | @named nm n h i f st su np hp hds l hc hm hi hl hsu r ih =>
    intro p cls d σ H G rel er
    obtain ⟨xi, h1, h2, h3⟩ := id er
    refine ⟨exm k h, by rw [h2]; exact hm k xi h1, fun e => ?_, fun e a ha => ?_⟩
    · have e' : ¬ exm k h = true := by rw [e]; exact Bool.false_ne_true
      simp only [hdsF, if_neg e'] at p
      exact ih p cls d σ H G rel er
    · simp only [hdsF, if_pos e] at p
      exact ⟨G, e1.set i (.exc k fs), (rel.withX hx (some (a, cls, d))).bindX rfl er, suite (n := some i) p⟩
theorem ss_try {body : List Stmt} {h0 : ExceptHandler} {hds : List ExceptHandler} {l : List (Nat × Option Nat × (Env → Out))} {fb : Env → Out} (hs : X.stack = X.env :: X.outer) (hf : X.env.frame = some X.env.locals) (hN : X.N.Nodup) (tk : Takes X W) (hx : cx.ex = none)
    (hb : ∀ (W : WX) (pn : List (Addr × Obj)) (xe : Value → Shared → Prop), Takes (X.tr pn xe) W → PassesOwn (model X.prog X.w) X.A X.env xe → PSs (X.tr pn xe) body (sR (PX X T ca xa) cx G0 H0 W fb)) (k : HdR X T ca xa cx G0 H0 (h0 :: hds) l) :
    SS X T ca xa cx G0 H0 W (.Try body (h0 :: hds) [] [] pos) fun env => (match fb env with
    | .err k fs e1 => hdsF l k fs e1
    | o => o) :=
  (ps_try_cl hs hf hN tk hb k.cl).imp fun D σ H ⟨G, env, rel, p⟩ => by
    refine ⟨G, env, rel, ?_⟩
    dsimp only at p
    cases q : fb env with
    | err k' fs e1 => rw [q] at p; exact wCl_of k hx p
    | nx e => rw [q] at p; exact p
    | ct e => rw [q] at p; exact p
    | ret e => rw [q] at p; exact p
    | bad => rw [q] at p; exact p
/-! ### e.field -/
theorem s_xf {k j i : Nat} {x n : Str} {p1 : Pos} {xi : ExI} (hN : X.N[i]? = some x) (hv : Vis X.env.scope x) (hd : (x == ("__debug__" : Str)) = false) (hcd : (x == ("__classdict__" : Str)) = false) (T1 : XfC X.K (xa k)) (hk : T.exs[k]? = some xi) (hno : PySem.W.findIn X.K (.ref (xa k)) n = some none) (hn : xi.fields[j]? = some n)
    (hand : ∀ a cls d, cx.ex = some (a, cls, d) → ∃ oe, (a, oe) ∈ X.pn ∧ Zc cls d oe ∧ ∃ vs, oe.data = .fields vs) :
    SE X T ca xa cx G0 H0 W (.Attribute (.Name x p1) n pos) fun env => (match env[i]? with
    | some (.exc k' fs) => if k' = k then (match fs[j]? with
      | some d => .ok (.val d)
      | none => .bad) else .bad
    | _ => .bad) := by
  refine ⟨fun pins s σ H Q I h => ?_⟩
  obtain ⟨G, env, rel, p⟩ := h
  dsimp only at p
  cases e : env[i]? with
  | none => rw [e] at p; exact False.elim p
  | some sl =>
    rw [e] at p
    cases sl with
    | exc k' fs =>
      dsimp only at p
      split at p
      · rename_i ek
        subst ek
        split at p
        · rename_i dv ed
          obtain ⟨a, cls, d, e1, e2, xi', h1, h2, h3⟩ := rel.sl i _ e
          obtain ⟨oe, hpn, hz, vs0, hdat⟩ := hand a cls d e1
          rw [h1] at hk
          obtain rfl := Option.some.inj hk
          rcases h3 with h3 | ⟨dd, fv, vs, y1, y2, y3, y4⟩
          · rw [h3] at hn; cases hn
          · obtain ⟨v, ev, rv⟩ := y3.get ed
            have lk := y4 j n v hn ev
            refine attr_of (base_ok rfl) (thn ((pe_var (pos := p1) hN hv hd hcd).run pins s σ H (fun v H' => v = .ref a ∧ H' = H) I ⟨.ref a, e2, rfl, rfl⟩) fun u s1 hh => ?_)
            obtain ⟨v1, H1, I1, r1, ev1, eH⟩ := hh
            subst ev1
            subst eH
            obtain rfl : u = Value.ref a := r1
            obtain ⟨ha, _⟩ := I1.pin (a, oe) (List.mem_append_left _ hpn)
            obtain ⟨mA, hns, hr⟩ := (show ObjOk X.prog X.w H1 s1.heap dd (.xd fv) from I1.hok dd _ y2)
            obtain ⟨od, ho, hl⟩ := lookIn_ns hns
            obtain ⟨u, hu, ru⟩ := RelO.some_of (v := v) (o := mA n) (by rw [← lk]; exact hr n)
            have J : PySem.W.InstAt s1.heap a oe (xa k') (some od) := by
              refine ⟨ha, hz.1.trans h2, ?_, ?_⟩
              · unfold PySem.W.notCls
                rw [hdat]
              · rw [hz.2, y1]
                exact ho
            exact HandSPX.exc_get I1.kIn J T1.ga T1.gg T1.exC (PySem.W.findObj_own T1.hdC hno rfl (by rw [hl, hu])) (handed_of ru) ⟨v, H1, I1.tok _, ru, p v H1 G (Step.refl rel.gh) rv⟩
        · exact False.elim p
      · exact False.elim p
    | _ => exact False.elim p
end
end PL

set_option linter.all false
set_option Elab.async false
set_option maxRecDepth 100000
set_option maxHeartbeats 1000000
/-! Soundness, part 13: isinstance(e, ValueError) of an error in hand. -/
namespace PySem.W
open PySem PySem.Spec PyProof.Rows
theorem pl_ans {K : Frag} {x t c : Value} {P : Heap → Prop} (ty : ∀ (M : Model) (h : Heap), K.In h → P h → Looks M h (typeOf x) t) (ne : (t == c) = false) (e : kitCls K t c = some true) : Answers (fun s => K.In s.heap ∧ P s.heap) x c true := by
  intro dep tk prog w A R s hs
  obtain ⟨h0, g, d, tt, os⟩ := s
  obtain ⟨⟨X, p⟩, hq⟩ := hs
  have lt := ty (model prog w) h0 X p
  obtain ⟨k1, k2, k3⟩ := kit_cls (M := model prog w) X e
  have li : Looks (model prog w) h0 (isInstance x c) true := lt.andThen k3
  have nn : ¬ (t == c) = true := by rw [ne]; exact Bool.false_ne_true
  unfold Builtin.«isinstance.nested»
  refine wpAny_bind (lt.at ?_)
  rw [if_neg nn]
  refine wpAny_bind (k1.at ?_)
  rw [if_pos (by decide)]
  k_delta "plainIsInstance"
  refine wpAny_bind (wpAny_bind (k2.at ?_))
  simp only [Bool.not_true, Bool.false_eq_true, if_false]
  refine wpAny_bind (li.at ?_)
  first
    | exact wpAny_pure (wpAny_pure (hq tt))
    | (simp only [if_true]; first | exact wpAny_pure (wpAny_pure (hq tt)) | exact wpAny_pure (hq tt) | exact wpAny_bind (wpAny_pure (wpAny_pure (hq tt))))
theorem pl_isi {K : Frag} {x t c : Value} {P : Heap → Prop} {prog : Program} {w : World} {A : Around} {E : Value → Shared → Prop} {s : Shared} {Q : Value → Shared → Prop} (ty : ∀ (M : Model) (h : Heap), K.In h → P h → Looks M h (typeOf x) t) (ne : (t == c) = false) (e : kitCls K t c = some true) (X : K.In s.heap) (p : P s.heap)
    (hx : x ≠ .builtin "__main__.__loader__#opaque") (h : ∀ tk, Q (.bool true) { s with toks := tk }) : wpAny (model prog w) A (call (.builtin "isinstance") [x, c]) Q E s :=
  call_isinstance (S := fun _ R s => (K.In s.heap ∧ P s.heap) ∧ ∀ tk, R (.ok (.ret (.bool true))) { s with toks := tk })
    (fun prog w A R s hs => isinstance_outer (pl_ans ty ne e 0 _ prog w A R s hs) hx) ⟨⟨X, p⟩, h⟩
end PySem.W
namespace PL
open PySem PySem.Spec PyProof.Rows L2
section
variable {X : Cx} {T : Tab} {ca xa : Nat → Addr} {cx : Hand} {G0 H0 : Hp} {W : WX} {pos p q p1 : Pos}
theorem call_isx : CallR X (.builtin "isinstance") (fun xs H Q => ∃ a oe C, xs = [.ref a, .ty "ValueError"] ∧ (a, oe) ∈ X.pn ∧ oe.cls = .ref C ∧ PySem.W.kitCls X.K (.ref C) (.type "ValueError") = some true ∧ Q (.bl true) H) := by
  intro pins s σ H xs us Q I r h
  obtain ⟨a, oe, C, rfl, hp, hc, hk, hq⟩ := h
  obtain ⟨u, v, rfl, r1, r2⟩ := r.two
  obtain rfl : u = Value.ref a := r1
  obtain rfl : v = Value.type "ValueError" := r2
  obtain ⟨ha, _⟩ := I.pin (a, oe) (List.mem_append_left _ hp)
  exact PySem.W.pl_isi (K := X.K) (t := .ref C) (P := fun h => h.get? a = some oe) (fun M h _ e A Q E s k q => wpAny_typeOf_ref (k _ _ e) (by rw [hc]; exact q)) rfl hk I.kIn ha (fun z => nomatch z) fun tk => ⟨.bl true, H, I.tok _, rfl, hq⟩
theorem s_isx {i : Nat} {x : Str} (hN : X.N[i]? = some x) (hv : Vis X.env.scope x) (hd : (x == ("__debug__" : Str)) = false) (hcd : (x == ("__classdict__" : Str)) = false) (hg : Gl X "isinstance") (hm : X.mg "isinstance" = none) (hg2 : Gl X "ValueError") (hm2 : X.mg "ValueError" = none)
    (hsub : ∀ (k : Nat) xi, T.exs[k]? = some xi → PySem.W.kitCls X.K (.ref (xa k)) (.type "ValueError") = some true) (hand : ∀ a cls d, cx.ex = some (a, cls, d) → ∃ oe, (a, oe) ∈ X.pn ∧ Zc cls d oe ∧ ∃ vs, oe.data = .fields vs) :
    SE X T ca xa cx G0 H0 W (.Call (.Name "isinstance" p) [.Name x p1, .Name "ValueError" q] [] pos) fun env => (match env[i]? with
    | some (.exc _ _) => .ok (.val (.bl true))
    | _ => .bad) := by
  have pt : PE X (.Name "ValueError" q) (tC (.ty "ValueError")) := pe_bltn hg2 hm2 PyProof.Rows.Boot.«ValueError» (show RelV (.ty _) (.type _) from rfl) (by decide) (by decide)
  refine (pe_callB call_isx hg hm (by decide +kernel) (pa_cons (pe_var (pos := p1) hN hv hd hcd) (pa_cons pt pa_nil rfl) rfl) (he := rfl)).imp fun σ H Q ⟨G, env, rel, pp⟩ => ?_
  dsimp only at pp
  cases e : env[i]? with
  | none => rw [e] at pp; exact False.elim pp
  | some sl =>
    rw [e] at pp
    cases sl with
    | exc k fs =>
      obtain ⟨a, cls, d, e1, e2, xi', h1, h2, h3⟩ := rel.sl i _ e
      obtain ⟨oe, hpn, hz, _⟩ := hand a cls d e1
      exact ⟨.ref a, e2, a, oe, xa k, rfl, hpn, hz.1.trans h2, hsub k xi' h1, pp _ H G (Step.refl rel.gh) (.bl true)⟩
    | _ => exact False.elim pp
end
end PL

set_option linter.all false
set_option Elab.async false
set_option maxRecDepth 100000
set_option maxHeartbeats 1000000
/-! The checker of expressions: a text against a term. -/
namespace PL
open PySem PySem.Spec PyProof.Rows L2
structure Cc where
  N : List Str
  sc : Scope
  calm : Bool
  hot : Bool
  blk : Bool
def visB (sc : Scope) (x : Str) : Bool := match sc.names.lookup x with
  | some .local => true
  | some .cell => true
  | some .free => true
  | _ => false
def gloB (sc : Scope) (x : Str) : Bool := match sc.names.lookup x with
  | some .globalImplicit => true
  | _ => false
def locB (sc : Scope) (x : Str) : Bool := match sc.names.lookup x with
  | some .local => true
  | _ => false
def celB (sc : Scope) (x : Str) : Bool := match sc.names.lookup x with
  | some .cell => true
  | _ => false
def dbgB (x : Str) : Bool := !(x == ("__debug__" : Str))
def cdB (x : Str) : Bool := !(x == ("__classdict__" : Str))
def stB (c : Cc) (x : Str) : Bool := locB c.sc x || (!c.blk && celB c.sc x)
/-- the name is slot i's -/
def varB (c : Cc) (i : Nat) (x : Str) : Bool := decide (c.N[i]? = some x) && (visB c.sc x && (dbgB x && cdB x))
/-- a global name -/
def glB (c : Cc) (x : Str) : Bool := gloB c.sc x && dbgB x
def freeNames : List Str := ["len", "abs", "int", "str", "sum", "list", "tuple", "sorted", "max", "min", "isinstance", "bool", "range", "reversed", "ValueError"]
def glbIs : Sum Int Str → D → Bool
  | .inl i, .int j => decide (i = j)
  | .inr x, .str y => decide (x = y)
  | _, _ => false
def isZero : E → Bool
  | .int i => decide (i = 0)
  | _ => false
def ownP (c : Cc) (own : List Nat) : List (Str × Nat) := own.filterMap fun i => (c.N[i]?).map fun x => (x, i)
def cBlk (c : Cc) (scope : Scope) : Cc := { c with sc := relS scope c.sc, blk := true }

mutual
def cE (T : Tab) : Nat → Cc → Expr → E → Bool
  | 0, _, _, _ => false
  | n + 1, c, x, .non => (match x with
    | .Constant .none _ _ => true
    | _ => false)
  | n + 1, c, x, .bl b => (match x with
    | .Constant (.bool b') _ _ => decide (b' = b)
    | _ => false)
  | n + 1, c, x, .int i => (match x with
    | .Constant (.int j) _ _ => decide (j = i)
    | _ => false)
  | n + 1, c, x, .str z => (match x with
    | .Constant (.str y) _ _ => decide (y = z)
    | _ => false)
  | n + 1, c, x, .v i => (match x with
    | .Name y _ => varB c i y
    | _ => false)
  | n + 1, c, x, .g j d => (match x with
    | .Name y _ => (match T.glb[j]? with
      | some (y', v) => decide (y' = y) && (glB c y && glbIs v d)
      | none => false)
    | _ => false)
  | n + 1, c, x, .neg a => (match x with
    | .UnaryOp .USub y _ => cE T n c y a
    | _ => false)
  | n + 1, c, x, .not a => (match x with
    | .UnaryOp .Not y _ => cE T n c y a
    | _ => false)
  | n + 1, c, x, .and a b => (match x with
    | .BoolOp .And (y :: z :: zs) _ => cE T n c y a && cBo T n c .And (z :: zs) b
    | _ => false)
  | n + 1, c, x, .or a b => (match x with
    | .BoolOp .Or (y :: z :: zs) _ => cE T n c y a && cBo T n c .Or (z :: zs) b
    | _ => false)
  | n + 1, c, x, .bin o a b => (match x with
    | .BinOp y op z _ => decide (op = opOf o) && (cQ T n c y a && cQ T n c z b)
    | _ => false)
  | n + 1, c, x, .cmp o a b => (match x with
    | .Compare y [op] [z] _ => decide (op = cmpOf o) && (cO T n c y a && (cO T n c z b && !behindInMarks (cmpOf o) z))
    | _ => false)
  | n + 1, c, x, .ch2 o o' a b d => (match x with
    | .Compare y [op, op'] [z, w] _ => decide (op = cmpOf o) && (decide (op' = cmpOf o') && (cO T n c y a && (cO T n c z b && (cO T n c w d && !lastMarks [cmpOf o, cmpOf o'] [z, w]))))
    | _ => false)
  | n + 1, c, x, .ch3 o o' o'' a b d e => (match x with
    | .Compare y [op, op', op''] [z, w, v] _ => decide (op = cmpOf o) && (decide (op' = cmpOf o') && (decide (op'' = cmpOf o'') && (cO T n c y a && (cO T n c z b && (cO T n c w d && (cO T n c v e && !lastMarks [cmpOf o, cmpOf o', cmpOf o''] [z, w, v]))))))
    | _ => false)
  | n + 1, c, x, .tup es => (match x with
    | .Tuple ys _ _ => cEs T n c ys es
    | _ => false)
  | n + 1, c, x, .lst es => (match x with
    | .List ys _ => cEs T n c ys es
    | _ => false)
  | n + 1, c, x, .ix a i => (match x with
    | .Subscript y z _ => noSlice z && (cO T n c y a && cO T n c z i)
    | _ => false)
  | n + 1, c, x, .sl a lo hi => (match x with
    | .Subscript y (.Slice l h none _) _ => cO T n c y a && (cOp T n c l lo && cOp T n c h hi)
    | _ => false)
  | n + 1, c, x, .call f es => (match x with
    | .Call (.Name y _) ys [] _ => c.calm && (match T.fns[f]? with
      | some fi => decide (fi.at_ = .glo) && (decide (fi.name = y) && (glB c y && (ys.all noStar && cAs T n c fi.fn.pm ys es)))
      | none => false)
    | _ => false)
  | n + 1, c, x, .mth k f o es => (match x with
    | .Call (.Attribute y m ap) ys [] p => c.calm && (match T.fns[f]? with
      | some fi => decide (fi.at_ = .meth k) && (decide (fi.name = m) && (noSup y && (decide (ap.endLine = p.line) && (decide (ys.length < 29) && (ys.all noStar && (cE T n c y o && cAs T n c fi.fn.pm.tail ys es))))))
      | none => false)
    | _ => false)
  | n + 1, c, x, .mk f es => (match x with
    | .Call (.Name y _) (y0 :: ys) [] _ => c.calm && (match T.fns[f]? with
      | some fi => (match fi.at_ with
        | .ini k => (match T.cls[k]? with
          | some ci => decide (ci.name = y) && (glB c y && ((y0 :: ys).all noStar && cAs T n c fi.fn.pm (y0 :: ys) es))
          | none => false)
        | _ => false)
      | none => false)
    | _ => false)
  | n + 1, c, x, .fld o k j => (match x with
    | .Attribute y m _ => noSup y && (cE T n c y o && (match T.cls[k]? with
      | some ci => decide (ci.fields[j]? = some m)
      | none => false))
    | _ => false)
  | n + 1, c, x, .xf i k j => (match x with
    | .Attribute (.Name y _) m _ => varB c i y && (match T.exs[k]? with
      | some xi => decide (xi.fields[j]? = some m)
      | none => false)
    | _ => false)
  | n + 1, c, x, .sf i k j => (match x with
    | .Attribute (.Name y _) m _ => varB c i y && (match T.cls[k]? with
      | some ci => decide (ci.fields[j]? = some m)
      | none => false)
    | _ => false)
  | n + 1, c, x, .isx i => (match x with
    | .Call (.Name y _) [.Name z _, .Name w _] [] _ => decide (y = "isinstance") && (glB c y && (decide (w = "ValueError") && (glB c w && varB c i z)))
    | _ => false)
  | n + 1, c, x, .b1 b a => (match x with
    | .Call (.Name y _) [z] [] _ => plainB1 b && ((hotB1 b || c.calm) && (decide (y = b1Name b) && (glB c y && (noStar z && cO T n c z a))))
    | .Call (.Name y _) [z] [⟨some k, .Constant (.bool true) _ _, _⟩] _ => !plainB1 b && (c.calm && (decide (y = "sorted") && (decide (k = "reverse") && (glB c y && (noStar z && cO T n c z a)))))
    | _ => false)
  | n + 1, c, x, .b2 b a d => (match x with
    | .Call (.Name y _) [z, w] [] _ => c.calm && (decide (y = b2Name b) && (glB c y && (noStar z && (noStar w && (cO T n c z a && cO T n c w d)))))
    | _ => false)
  | n + 1, c, x, .isi a t => (match x with
    | .Call (.Name y _) [z, .Name w _] [] _ => decide (y = "isinstance") && (glB c y && (decide (w = tyName t) && (glB c w && (noStar z && cO T n c z a))))
    | _ => false)
  | n + 1, c, x, .m1 m o a => (match x with
    | .Call (.Attribute y nm ap) [z] [] p => decide (nm = m1Name m) && (noSup y && (noStar z && (decide (ap.endLine = p.line) && (cE T n c y o && cO T n c z a))))
    | _ => false)
  | n + 1, c, x, .comp tg it cs el own => (match x with
    | .ListComp elt [⟨tg', iter, ifs, a⟩] scope _ => decide (a = 0) && (c.calm && (noSet iter && (cIC T n c tg' iter it && cBk T n c scope tg' ifs elt tg cs el own)))
    | _ => false)
  | n + 1, c, x, .fmt a => (match x with
    | .FormattedValue y v none _ => decide (v = -1) && cE T n c y a
    | _ => false)
  | n + 1, c, x, .js es => (match x with
    | .JoinedStr (y :: z :: ys) _ => cJs T n c (y :: z :: ys) es
    | _ => false)
  | n + 1, c, x, .lrg a => (match x with
    | .Call (.Name y _) [.Call (.Name z _) [w] [] _] [] _ => c.calm && (decide (y = "list") && (glB c y && (decide (z = "range") && (glB c z && (noStar w && cE T n c w a)))))
    | _ => false)
/-- an f-string's parts -/
def cJs (T : Tab) : Nat → Cc → List Expr → List E → Bool
  | 0, _, _, _ => false
  | n + 1, c, [], [] => true
  | n + 1, c, x :: xs, e :: es => cE T n c x e && cJs T n c xs es
  | _, _, _, _ => false
/-- a comprehension's block -/
def cBk (T : Tab) : Nat → Cc → Scope → Expr → List Expr → Expr → Tg → List PL.T → E → List Nat → Bool
  | 0, _, _, _, _, _, _, _, _, _ => false
  | n + 1, c, scope, tg', ifs, elt, tg, cs, el, own => blkC c.N c.sc scope (ownP c own) && (decide ((ownP c own).map (·.2) = own) && (tgB c.N (stB (cBlk c scope)) tg' tg && ((tgIx tg).all (fun i => decide (i ∈ own)) && (cE T n (cBlk c scope) elt el && (match ifs, cs with
    | [], [] => true
    | [y], [t] => cT T n (cBlk c scope) y t
    | _, _ => false)))))
/-- and, or: the rest, as values -/
def cBo (T : Tab) : Nat → Cc → BoolOp → List Expr → E → Bool
  | 0, _, _, _, _ => false
  | n + 1, c, op, [y], t => cE T n c y t
  | n + 1, c, .And, y :: z :: zs, .and a b => cE T n c y a && cBo T n c .And (z :: zs) b
  | n + 1, c, .Or, y :: z :: zs, .or a b => cE T n c y a && cBo T n c .Or (z :: zs) b
  | _, _, _, _, _ => false
def cO (T : Tab) : Nat → Cc → Expr → O → Bool
  | 0, _, _, _ => false
  | n + 1, c, x, .s i => (match x with
    | .Name y _ => varB c i y
    | _ => false)
  | n + 1, c, x, .e e => cE T n c x e
def cQ (T : Tab) : Nat → Cc → Expr → O → Bool
  | 0, _, _, _ => false
  | n + 1, c, x, .s i => (match x with
    | .Name y _ => varB c i y
    | _ => false)
  | n + 1, c, x, .e e => cE T n c x e
def cEs (T : Tab) : Nat → Cc → List Expr → List E → Bool
  | 0, _, _, _ => false
  | n + 1, c, [], [] => true
  | n + 1, c, x :: xs, e :: es => noStar x && (cE T n c x e && cEs T n c xs es)
  | _, _, _, _ => false
def cAs (T : Tab) : Nat → Cc → List Bool → List Expr → List A → Bool
  | 0, _, _, _, _ => false
  | n + 1, c, [], [], [] => true
  | n + 1, c, true :: ms, x :: xs, .p o :: es => noStar x && (cO T n c x o && cAs T n c ms xs es)
  | n + 1, c, false :: ms, x :: xs, .e e :: es => noStar x && (cE T n c x e && cAs T n c ms xs es)
  | _, _, _, _, _ => false
def cOp (T : Tab) : Nat → Cc → Option Expr → Option E → Bool
  | 0, _, _, _ => false
  | n + 1, c, none, none => true
  | n + 1, c, some x, some e => cE T n c x e
  | _, _, _, _ => false
def cT (T : Tab) : Nat → Cc → Expr → PL.T → Bool
  | 0, _, _, _ => false
  | n + 1, c, x, .v o => plainT x && cO T n c x o
  | n + 1, c, x, .not a => (match x with
    | .UnaryOp .Not y _ => cT T n c y a
    | _ => false)
  | n + 1, c, x, .and a b => (match x with
    | .BoolOp .And (y :: z :: zs) _ => cT T n c y a && cW T n c .And (z :: zs) b
    | _ => false)
  | n + 1, c, x, .or a b => (match x with
    | .BoolOp .Or (y :: z :: zs) _ => cT T n c y a && cW T n c .Or (z :: zs) b
    | _ => false)
  | n + 1, c, x, .cmp o a b => (match x with
    | .Compare y [op] [z] _ => decide (op = cmpOf o) && (cO T n c y a && (cO T n c z b && !behindInMarks (cmpOf o) z))
    | _ => false)
  | n + 1, c, x, .ch2 o o' a b d => (match x with
    | .Compare y [op, op'] [z, w] _ => decide (op = cmpOf o) && (decide (op' = cmpOf o') && (cO T n c y a && (cO T n c z b && (cO T n c w d && !lastMarks [cmpOf o, cmpOf o'] [z, w]))))
    | _ => false)
  | n + 1, c, x, .ch3 o o' o'' a b d e => (match x with
    | .Compare y [op, op', op''] [z, w, v] _ => decide (op = cmpOf o) && (decide (op' = cmpOf o') && (decide (op'' = cmpOf o'') && (cO T n c y a && (cO T n c z b && (cO T n c w d && (cO T n c v e && !lastMarks [cmpOf o, cmpOf o', cmpOf o''] [z, w, v]))))))
    | _ => false)
/-- and, or: the rest, as a test -/
def cW (T : Tab) : Nat → Cc → BoolOp → List Expr → PL.T → Bool
  | 0, _, _, _, _ => false
  | n + 1, c, op, [y], t => cT T n c y t
  | n + 1, c, .And, y :: z :: zs, .and a b => cT T n c y a && cW T n c .And (z :: zs) b
  | n + 1, c, .Or, y :: z :: zs, .or a b => cT T n c y a && cW T n c .Or (z :: zs) b
  | _, _, _, _, _ => false
/-- a comprehension's source -/
def cIC (T : Tab) : Nat → Cc → Expr → Expr → PL.It → Bool
  | 0, _, _, _, _ => false
  | n + 1, c, tg, x, .sq o => cO T n c x o
  | n + 1, c, tg, x, .rev o => (match x with
    | .Call (.Name y _) [z] [] _ => decide (y = "reversed") && (glB c y && (noStar z && cO T n c z o))
    | _ => false)
  | n + 1, c, tg, x, it => cIF T n c tg x it
/-- a for's source -/
def cIF (T : Tab) : Nat → Cc → Expr → Expr → PL.It → Bool
  | 0, _, _, _, _ => false
  | n + 1, c, tg, x, .r1 a => (match x with
    | .Call (.Name y _) [z] [] _ => decide (y = "range") && (glB c y && (noStar z && cE T n c z a))
    | _ => false)
  | n + 1, c, tg, x, .r2 a b => (match x with
    | .Call (.Name y _) [z, w] [] _ => decide (y = "range") && (glB c y && (noStar z && (noStar w && (cE T n c z a && cE T n c w b))))
    | _ => false)
  | n + 1, c, tg, x, .r3 a b k => (match x with
    | .Call (.Name y _) [z, w, v] [] _ => decide (y = "range") && (glB c y && (noStar z && (noStar w && (noStar v && (cE T n c z a && (cE T n c w b && cE T n c v k))))))
    | _ => false)
  | n + 1, c, tg, x, .revr a b => (match x with
    | .Call (.Name r _) [.Call (.Name y _) [z, w] [] _] [] _ => decide (r = "reversed") && (glB c r && (decide (y = "range") && (glB c y && (noStar z && (noStar w && (cE T n c z a && cE T n c w b))))))
    | .Call (.Name r _) [.Call (.Name y _) [w] [] _] [] _ => decide (r = "reversed") && (glB c r && (decide (y = "range") && (glB c y && (noStar w && (isZero a && cE T n c w b)))))
    | _ => false)
  | n + 1, c, tg, x, .sq (.s i) => (match x with
    | .Name y _ => varB c i y
    | _ => false)
  | n + 1, c, tg, x, .sq (.e e) => cE T n c x e
  | n + 1, c, tg, x, .rev (.s i) => (match x with
    | .Call (.Name r _) [.Name y _] [] _ => decide (r = "reversed") && (glB c r && varB c i y)
    | _ => false)
  | n + 1, c, tg, x, .rev (.e e) => (match x with
    | .Call (.Name r _) [z] [] _ => decide (r = "reversed") && (glB c r && (noStar z && cE T n c z e))
    | _ => false)
end
end PL

set_option linter.all false
set_option Elab.async false
set_option maxRecDepth 100000
set_option maxHeartbeats 4000000
/-! The checker of expressions is right. -/
namespace PL
open PySem PySem.Spec PyProof.Rows L2
/-- what holds of the program's names -/
structure Kf (X : Cx) (T : Tab) (ca xa : Nat → Addr) (K : Ctx) : Prop where
  wd : WdX X
  un : X.A.units + 66 < cLine
  fn : X.calm = true → ∀ (f : Nat) fi, T.fns[f]? = some fi → fi.at_ = .glo → ∃ k a fd, FnOk X.prog X.w X.K X.mg X.base (L2.CX X.prog X.w) k a fd fi.ps (spF (PX X T ca xa) (K.call f) fi.fn.pm fi.ps.length) ∧ Room k X.A ∧ X.mg fi.name = some (.ref a) ∧ PySem.W.keepIn X.K (.ref a) = true ∧ Binds X.K fd fi.ps [] ∧ fi.fn.pm.length = fi.ps.length
  mt : X.calm = true → ∀ (f : Nat) fi c, T.fns[f]? = some fi → fi.at_ = .meth c → ∃ pm ci k a fd, fi.fn.pm = false :: pm ∧ T.cls[c]? = some ci ∧ fi.name ∉ ci.fields ∧ Cls X.K (ca c) ∧ Meth X.K (ca c) fi.name a ∧ FnOk X.prog X.w X.K X.mg X.base (L2.CX X.prog X.w) k a fd fi.ps (spF (PX X T ca xa) (K.call f) (false :: pm) fi.ps.length) ∧ Room k X.A ∧ Binds X.K fd fi.ps [] ∧ pm.length + 1 = fi.ps.length
  ini : X.calm = true → ∀ (f : Nat) fi c ci, T.fns[f]? = some fi → fi.at_ = .ini c → T.cls[c]? = some ci → ∃ k a fd, Mk X.K (ca c) a ∧ X.mg ci.name = some (.ref (ca c)) ∧ FnOk X.prog X.w X.K X.mg X.base (L2.CX X.prog X.w) k a fd fi.ps (spI (PX X T ca xa) c (K.call f) fi.fn.pm fi.ps.length) ∧ Room (k + 1) X.A ∧ Binds X.K fd fi.ps [] ∧ fi.fn.pm.length + 1 = fi.ps.length
  cls : ∀ c ci, T.cls[c]? = some ci → Cls X.K (ca c) ∧ (∀ n ∈ ci.fields, NoAttr X.K (ca c) n) ∧ ci.fields.Nodup
  glb : ∀ (j : Nat) nm v, T.glb[j]? = some (nm, v) → match v with
    | .inl i => ∃ t, X.mg nm = some (.int i t)
    | .inr z => ∃ t, X.mg nm = some (.str z t)
  free : ∀ nm ∈ freeNames, X.mg nm = none
  exc : ∀ (k : Nat) xi, T.exs[k]? = some xi → X.mg xi.name = some (.ref (xa k)) ∧ (xi.fields = [] → Xo X T xa k xi.name) ∧ (xi.fields ≠ [] → X.calm = true → Xi X T xa k xi.name xi.fields.length) ∧ XfC X.K (xa k) ∧ (∀ n ∈ xi.fields, PySem.W.findIn X.K (.ref (xa k)) n = some none) ∧ PySem.W.kitCls X.K (.ref (xa k)) (.type "ValueError") = some true
  exm : ∀ (h : Nat) xh, T.exs[h]? = some xh → ∀ (k : Nat) xi, T.exs[k]? = some xi → PySem.W.exmOne X.K (.ref (xa k)) (.ref (xa h)) = some (PL.exm k h)
/-- what holds of the frame -/
structure Cok (X : Cx) (c : Cc) (cx : Hand) (W : WX) : Prop where
  N : X.N = c.N
  nd : X.N.Nodup
  sc : X.env.scope = c.sc
  kind : X.env.scope.kind = .function
  calm : c.calm = true → X.calm = true
  st : StB X (stB c)
  tk : Takes X W
  cold : c.calm = true → cx.ex = none
  hand : ∀ a cls d, cx.ex = some (a, cls, d) → ∃ oe, (a, oe) ∈ X.pn ∧ Zc cls d oe ∧ ∃ vs, oe.data = .fields vs
section
variable {X : Cx} {T : Tab} {ca xa : Nat → Addr} {cx : Hand} {G0 H0 : Hp} {W : WX} {c : Cc} {K : Ctx}
theorem se_congr {e : Expr} {f g : Env → Res Vl} (h : SE X T ca xa cx G0 H0 W e f) (q : ∀ env, f env = g env) : SE X T ca xa cx G0 H0 W e g := by
  have : f = g := funext q
  rw [← this]
  exact h
theorem visB_ok {sc : Scope} {x : Str} (h : visB sc x = true) : Vis sc x := by
  unfold visB at h
  split at h
  · rename_i e; exact .inl e
  · rename_i e; exact .inr (.inl e)
  · rename_i e; exact .inr (.inr e)
  · cases h
theorem Cok.vis (C : Cok X c cx W) {x : Str} (h : visB c.sc x = true) : Vis X.env.scope x := by rw [C.sc]; exact visB_ok h
theorem Cok.gl (C : Cok X c cx W) {x : Str} (h : gloB c.sc x = true) : Gl X x := by
  unfold gloB at h
  split at h
  · rename_i e
    show X.env.scope.names.lookup x = _
    rw [C.sc]
    exact e
  · cases h
theorem dbg_ok {x : Str} (h : dbgB x = true) : (x == ("__debug__" : Str)) = false := by
  unfold dbgB at h
  simpa using h
theorem cd_ok {x : Str} (h : cdB x = true) : (x == ("__classdict__" : Str)) = false := by
  unfold cdB at h
  simpa using h
theorem Cok.glo (C : Cok X c cx W) {x : Str} (h : glB c x = true) : Gl X x ∧ (x == ("__debug__" : Str)) = false := by
  unfold glB at h
  obtain ⟨h1, h2⟩ := Bool.and_eq_true_iff.mp h
  exact ⟨C.gl h1, dbg_ok h2⟩
theorem Cok.var (C : Cok X c cx W) {x : Str} {i : Nat} (h : varB c i x = true) : X.N[i]? = some x ∧ Vis X.env.scope x ∧ (x == ("__debug__" : Str)) = false ∧ (x == ("__classdict__" : Str)) = false := by
  unfold varB at h
  simp only [Bool.and_eq_true, decide_eq_true_eq] at h
  obtain ⟨h1, h2, h3, h4⟩ := h
  exact ⟨by rw [C.N]; exact h1, C.vis h2, dbg_ok h3, cd_ok h4⟩
/-- the claims of a level -/
structure SndE (n : Nat) (T : Tab) (ca xa : Nat → Addr) (K : Ctx) : Prop where
  e : ∀ {X : Cx} {c : Cc} {cx : Hand} {W : WX} {G0 H0 : Hp} {x : Expr} {t : E}, Kf X T ca xa K → Cok X c cx W → cE T n c x t = true → SE X T ca xa cx G0 H0 W x (ev K t)
  bo : ∀ {X : Cx} {c : Cc} {cx : Hand} {W : WX} {G0 H0 : Hp} {o : BoolOp} {ys : List Expr} {p : Pos} {t : E}, Kf X T ca xa K → Cok X c cx W → cBo T n c o ys t = true → SE X T ca xa cx G0 H0 W (.BoolOp o ys p) (ev K t)
  o : ∀ {X : Cx} {c : Cc} {cx : Hand} {W : WX} {G0 H0 : Hp} {x : Expr} {t : O}, Kf X T ca xa K → Cok X c cx W → cO T n c x t = true → SP' X T ca xa cx G0 H0 W x (po K t)
  q : ∀ {X : Cx} {c : Cc} {cx : Hand} {W : WX} {G0 H0 : Hp} {x : Expr} {t : O}, Kf X T ca xa K → Cok X c cx W → cQ T n c x t = true → SQ X T ca xa cx G0 H0 W x (pt K t)
  es : ∀ {X : Cx} {c : Cc} {cx : Hand} {W : WX} {G0 H0 : Hp} {x : List Expr} {t : List E}, Kf X T ca xa K → Cok X c cx W → cEs T n c x t = true → SA X T ca xa cx G0 H0 W x (evs K t)
  as_ : ∀ {X : Cx} {c : Cc} {cx : Hand} {W : WX} {G0 H0 : Hp} {ms : List Bool} {x : List Expr} {t : List A}, Kf X T ca xa K → Cok X c cx W → cAs T n c ms x t = true → SAR X T ca xa cx G0 H0 W ms x (args K t)
  js : ∀ {X : Cx} {c : Cc} {cx : Hand} {W : WX} {G0 H0 : Hp} {x : List Expr} {t : List E}, Kf X T ca xa K → Cok X c cx W → cJs T n c x t = true → SJ X T ca xa cx G0 H0 W x (js K t)
  op : ∀ {X : Cx} {c : Cc} {cx : Hand} {W : WX} {G0 H0 : Hp} {x : Option Expr} {t : Option E}, Kf X T ca xa K → Cok X c cx W → cOp T n c x t = true → SO X T ca xa cx G0 H0 W x (part K t)
  t : ∀ {X : Cx} {c : Cc} {cx : Hand} {W : WX} {G0 H0 : Hp} {x : Expr} {t : PL.T}, Kf X T ca xa K → Cok X c cx W → cT T n c x t = true → ST X T ca xa cx G0 H0 W x (tv K t)
  w : ∀ {X : Cx} {c : Cc} {cx : Hand} {W : WX} {G0 H0 : Hp} {o : BoolOp} {ys : List Expr} {p : Pos} {t : PL.T}, Kf X T ca xa K → Cok X c cx W → cW T n c o ys t = true → SW X T ca xa cx G0 H0 W (.BoolOp o ys p) (tv K t)
  ic : ∀ {X : Cx} {c : Cc} {cx : Hand} {W : WX} {G0 H0 : Hp} {tg x : Expr} {t : PL.It}, Kf X T ca xa K → Cok X c cx W → cIC T n c tg x t = true → SIC X T ca xa cx G0 H0 W tg x (its K t)
  ifr : ∀ {X : Cx} {c : Cc} {cx : Hand} {W : WX} {G0 H0 : Hp} {tg x : Expr} {t : PL.It}, Kf X T ca xa K → Cok X c cx W → cIF T n c tg x t = true → SIF X T ca xa cx G0 H0 W tg x (itsF K t)
  bk : ∀ {X : Cx} {c : Cc} {cx : Hand} {W : WX} {G0 H0 : Hp} {scope : Scope} {tg' elt : Expr} {ifs : List Expr} {tg : Tg} {cs : List PL.T} {el : E} {own : List Nat}, Kf X T ca xa K → Cok X c cx W → c.calm = true → cBk T n c scope tg' ifs elt tg cs el own = true →
    BlkOk X.N X.env.scope scope (ownP c own) ∧ (ownP c own).map (·.2) = own ∧ (∀ i ∈ tgIx tg, i ∈ own) ∧ BlkT X T ca xa cx G0 H0 scope tg' tg ifs elt (tvs K cs) (ev K el)

theorem Kf.tr (F : Kf X T ca xa K) (pn : List (Addr × Obj)) (xe : Value → Shared → Prop) : Kf (X.tr pn xe) T ca xa K := ⟨⟨F.wd.stat, F.wd.mods, F.wd.main, F.wd.tree, F.wd.top, F.wd.dep⟩, F.un, F.fn, F.mt, F.ini, F.cls, F.glb, F.free, fun k xi h => by
  obtain ⟨h1, h2, h3, h4, h5⟩ := F.exc k xi h
  exact ⟨h1, fun e => ⟨(h2 e).at_, (h2 e).q, (h2 e).g, (h2 e).kp, (h2 e).r⟩, fun e hc => ⟨(h3 e hc).at_⟩, h4, h5⟩, F.exm⟩
theorem Kf.blk (F : Kf X T ca xa K) (s : Shared) (H : Hp) (scope : Scope) (env : PySem.Env) (fp : List Addr) : Kf (X.blk s H scope env fp) T ca xa K := ⟨⟨F.wd.stat, F.wd.mods, F.wd.main, F.wd.tree, F.wd.top, F.wd.dep⟩, F.un, F.fn, F.mt, F.ini, F.cls, F.glb, F.free, fun k xi h => by
  obtain ⟨h1, h2, h3, h4, h5⟩ := F.exc k xi h
  exact ⟨h1, fun e => ⟨(h2 e).at_, (h2 e).q, (h2 e).g, (h2 e).kp, (h2 e).r⟩, fun e hc => ⟨(h3 e hc).at_⟩, h4, h5⟩, F.exm⟩
theorem Kf.suite (F : Kf X T ca xa K) (a : Addr) (pn : List (Addr × Obj)) : Kf (X.suite a pn) T ca xa K := ⟨⟨F.wd.stat, F.wd.mods, F.wd.main, F.wd.tree, F.wd.top, F.wd.dep⟩, F.un, (fun z => nomatch z), (fun z => nomatch z), (fun z => nomatch z), F.cls, F.glb, F.free, fun k xi h => by
  obtain ⟨h1, h2, h3, h4, h5⟩ := F.exc k xi h
  exact ⟨h1, fun e => ⟨(h2 e).at_, (h2 e).q, (h2 e).g, (h2 e).kp, (h2 e).r⟩, fun _ z => (nomatch z), h4, h5⟩, F.exm⟩
theorem Kf.fn_at (F : Kf X T ca xa K) (hc : X.calm = true) (tk : Takes X W) {f : Nat} {fi : FnI} (h : T.fns[f]? = some fi) (ha : fi.at_ = .glo) : FnAt X T ca xa W fi.name (K.call f) fi.fn.pm := by
  obtain ⟨k, a, fd, h1, h2, h3, h4, h5, h6⟩ := F.fn hc f fi h ha
  exact ⟨tk, k, a, fd, fi.ps, h1, h2, h3, h4, h5, h6⟩
theorem Kf.mt_at (F : Kf X T ca xa K) (hc : X.calm = true) (tk : Takes X W) {f c : Nat} {fi : FnI} (h : T.fns[f]? = some fi) (ha : fi.at_ = .meth c) : MtAt X T ca xa W c fi.name (K.call f) fi.fn.pm.tail := by
  obtain ⟨pm, ci, k, a, fd, h0, h1, h2, h3, h4, h5, h6, h7, h8⟩ := F.mt hc f fi c h ha
  rw [h0]
  exact ⟨tk, ci, k, a, fd, fi.ps, h1, h2, h3, h4, h5, h6, h7, h8⟩
theorem Kf.mk_at (F : Kf X T ca xa K) (hc : X.calm = true) (tk : Takes X W) {f c : Nat} {fi : FnI} {ci : ClI} (h : T.fns[f]? = some fi) (ha : fi.at_ = .ini c) (h2 : T.cls[c]? = some ci) : MkAt X T ca xa W ci.name c (K.call f) fi.fn.pm := by
  obtain ⟨k, a, fd, h3, h4, h5, h6, h7, h8⟩ := F.ini hc f fi c ci h ha h2
  exact ⟨tk, k, a, fd, fi.ps, h3, h4, h5, h6, h7, h8⟩
theorem Kf.cls_ok (F : Kf X T ca xa K) {k : Nat} {ci : ClI} (h : T.cls[k]? = some ci) : ClsOk X T ca k ci := ⟨h, (F.cls k ci h).1, (F.cls k ci h).2.1⟩
theorem b1_free (b : B1) : b1Name b ∈ freeNames := by cases b <;> decide
theorem b2_free (b : B2) : b2Name b ∈ freeNames := by cases b <;> decide
theorem ty_free (b : Ty) : tyName b ∈ freeNames := by cases b <;> decide
theorem Cok.blkc (C : Cok X c cx W) (hc : c.calm = true) (s : Shared) (H : Hp) (scope : Scope) (cl : List (Str × Addr)) (Ca : Addr) (fp : List Addr) (hk : scope.kind = .function) : Cok (X.blk s H scope (compEnvC scope cl Ca X.env) fp) (cBlk c scope) cx W0 where
  N := C.N
  nd := C.nd
  sc := by
    show relabel scope X.env = relS scope c.sc
    rw [← C.sc]
    rfl
  kind := hk
  calm := C.calm
  st := fun x h => by
    have h : (locB (relS scope c.sc) x || (!true && celB (relS scope c.sc) x)) = true := h
    simp only [Bool.not_true, Bool.false_and, Bool.or_false] at h
    unfold locB at h
    split at h
    · rename_i e
      have e2 : (relabel scope X.env).names.lookup x = some .local := by
        have : relabel scope X.env = relS scope c.sc := by rw [← C.sc]; rfl
        rw [this]
        exact e
      exact ⟨.inl e2, .inr e2⟩
    · cases h
  tk := fun u s' ⟨_, _, _, _, _, _, _, _, _, _, _, _, _, _, _, _, w⟩ => w.elim
  cold := C.cold
  hand := fun a cls d e => by rw [C.cold hc] at e; cases e
theorem _root_.L2.PTs.imp {X : Cx} {e : List Expr} {t t' : TT} (h : PTs X e t) (i : ∀ σ H Q, t' σ H Q → t σ H Q) : PTs X e t' := ⟨fun pins s σ H Q I q => h.run pins s σ H Q I (i σ H Q q)⟩
theorem evs_len (K : Ctx) : ∀ {es : List E} {env : Env} {ds : List D}, evs K es env = .ok ds → ds.length = es.length
  | [], env, ds, h => by
    simp only [evs] at h
    cases h
    rfl
  | e :: es, env, ds, h => by
    simp only [evs] at h
    cases q : ev K e env with
    | bad => rw [q] at h; cases h
    | err k fs => rw [q] at h; cases h
    | ok x =>
      simp only [q, Res.bind_ok] at h
      cases q2 : evs K es env with
      | bad => rw [q2] at h; cases h
      | err k fs => rw [q2] at h; cases h
      | ok ds2 =>
        simp only [q2, Res.bind_ok] at h
        cases h
        rw [List.length_cons, List.length_cons, evs_len K q2]
theorem cEs_len {T : Tab} : ∀ {n : Nat} {c : Cc} {xs : List Expr} {es : List E}, cEs T n c xs es = true → xs.all noStar = true ∧ xs.length = es.length
  | 0, _, _, _, h => by simp [cEs] at h
  | n + 1, c, [], [], _ => ⟨rfl, rfl⟩
  | n + 1, c, x :: xs, e :: es, h => by
    simp only [cEs, Bool.and_eq_true] at h
    obtain ⟨h1, h2, h3⟩ := h
    obtain ⟨h4, h5⟩ := cEs_len h3
    exact ⟨by simp [h1, h4], by rw [List.length_cons, List.length_cons, h5]⟩
  | n + 1, c, [], _ :: _, h => by simp [cEs] at h
  | n + 1, c, _ :: _, [], h => by simp [cEs] at h
theorem snd_zero : SndE 0 T ca xa K where
  e := fun _ _ h => by simp [cE] at h
  bo := fun _ _ h => by simp [cBo] at h
  o := fun _ _ h => by simp [cO] at h
  q := fun _ _ h => by simp [cQ] at h
  es := fun _ _ h => by simp [cEs] at h
  js := fun _ _ h => by simp [cJs] at h
  as_ := fun _ _ h => by simp [cAs] at h
  op := fun _ _ h => by simp [cOp] at h
  t := fun _ _ h => by simp [cT] at h
  w := fun _ _ h => by simp [cW] at h
  ic := fun _ _ h => by simp [cIC] at h
  ifr := fun _ _ h => by simp [cIF] at h
  bk := fun _ _ _ h => by simp [cBk] at h
end
end PL

set_option linter.all false
set_option Elab.async false
set_option maxRecDepth 100000
set_option maxHeartbeats 4000000
/-! The step of the checker's proof. -/
namespace PL
open PySem PySem.Spec PyProof.Rows L2
section
variable {X : Cx} {T : Tab} {ca xa : Nat → Addr} {cx : Hand} {G0 H0 : Hp} {W : WX} {c : Cc} {K : Ctx} {n : Nat}
theorem ba {a b : Bool} (h : (a && b) = true) : a = true ∧ b = true := Bool.and_eq_true_iff.mp h
theorem step_e (S : SndE n T ca xa K) {x : Expr} {t : E} (F : Kf X T ca xa K) (C : Cok X c cx W) (h : cE T (n + 1) c x t = true) : SE X T ca xa cx G0 H0 W x (ev K t) := by
  cases t with
  | non =>
    simp only [cE] at h
    split at h
    · exact se_congr (s_const (d := .non) pe_non fun _ => .non) fun env => by simp only [ev] <;> rfl
    · cases h
  | bl b =>
    simp only [cE] at h
    split at h
    · obtain rfl := of_decide_eq_true h
      exact se_congr (s_const pe_bl fun _ => .bl _) fun env => by simp only [ev] <;> rfl
    · cases h
  | int b =>
    simp only [cE] at h
    split at h
    · obtain rfl := of_decide_eq_true h
      exact se_congr (s_const pe_int fun _ => .int _) fun env => by simp only [ev] <;> rfl
    · cases h
  | str b =>
    simp only [cE] at h
    split at h
    · obtain rfl := of_decide_eq_true h
      exact se_congr (s_const pe_str fun _ => .str _) fun env => by simp only [ev] <;> rfl
    · cases h
  | v i =>
    simp only [cE] at h
    split at h
    · obtain ⟨h1, h2, h3, h4⟩ := C.var h
      exact se_congr (s_var h1 h2 h3 h4) fun env => by simp only [ev] <;> rfl
    · cases h
  | g j d =>
    simp only [cE] at h
    split at h
    · split at h
      · rename_i y' v e
        obtain ⟨h1, h⟩ := ba h
        obtain ⟨h2, h3⟩ := ba h
        obtain rfl := of_decide_eq_true h1
        obtain ⟨g1, g2⟩ := C.glo h2
        have q := F.glb j _ _ e
        cases v with
        | inl i =>
          obtain ⟨t, q⟩ := q
          cases d with
          | int k =>
            obtain rfl := of_decide_eq_true (show decide (i = k) = true from h3)
            exact se_congr (s_const (pe_glob (v := .int i) g1 q ⟨t, rfl⟩ g2) fun _ => .int _) fun env => by simp only [ev] <;> rfl
          | _ => cases h3
        | inr z =>
          obtain ⟨t, q⟩ := q
          cases d with
          | str k =>
            obtain rfl := of_decide_eq_true (show decide (z = k) = true from h3)
            exact se_congr (s_const (pe_glob (v := .str z) g1 q ⟨t, rfl⟩ g2) fun _ => .str _) fun env => by simp only [ev] <;> rfl
          | _ => cases h3
      · cases h
    · cases h
  | neg a =>
    simp only [cE] at h
    split at h
    · exact se_congr (s_neg (S.e F C h)) fun env => by simp only [ev] <;> rfl
    · cases h
  | not a =>
    simp only [cE] at h
    split at h
    · exact se_congr (s_not (S.e F C h)) fun env => by simp only [ev] <;> rfl
    · cases h
  | and a b =>
    simp only [cE] at h
    split at h
    · obtain ⟨h1, h2⟩ := ba h
      exact se_congr (s_and (S.e F C h1) (S.bo F C h2)) fun env => by simp only [ev] <;> rfl
    · cases h
  | or a b =>
    simp only [cE] at h
    split at h
    · obtain ⟨h1, h2⟩ := ba h
      exact se_congr (s_or (S.e F C h1) (S.bo F C h2)) fun env => by simp only [ev] <;> rfl
    · cases h
  | bin o a b =>
    simp only [cE] at h
    split at h
    · obtain ⟨h1, h⟩ := ba h
      obtain ⟨h2, h3⟩ := ba h
      obtain rfl := of_decide_eq_true h1
      exact se_congr (s_bin F.wd (S.q F C h2) (S.q F C h3)) fun env => by simp only [ev] <;> rfl
    · cases h
  | cmp o a b =>
    simp only [cE] at h
    split at h
    · obtain ⟨h1, h⟩ := ba h
      obtain ⟨h2, h⟩ := ba h
      obtain ⟨h3, h4⟩ := ba h
      obtain rfl := of_decide_eq_true h1
      exact se_congr (s_cmp F.un (S.o F C h2) (S.o F C h3) (by simpa using h4)) fun env => by simp only [ev] <;> rfl
    · cases h
  | ch2 o o' a b d =>
    simp only [cE] at h
    split at h
    · obtain ⟨h1, h⟩ := ba h
      obtain ⟨h2, h⟩ := ba h
      obtain ⟨h3, h⟩ := ba h
      obtain ⟨h4, h⟩ := ba h
      obtain ⟨h5, h6⟩ := ba h
      obtain rfl := of_decide_eq_true h1
      obtain rfl := of_decide_eq_true h2
      exact se_congr (s_ch2 F.un (S.o F C h3) (S.o F C h4) (S.o F C h5) (by simpa using h6)) fun env => by simp only [ev] <;> rfl
    · cases h
  | ch3 o o' o'' a b d e =>
    simp only [cE] at h
    split at h
    · obtain ⟨h1, h⟩ := ba h
      obtain ⟨h2, h⟩ := ba h
      obtain ⟨h0, h⟩ := ba h
      obtain ⟨h3, h⟩ := ba h
      obtain ⟨h4, h⟩ := ba h
      obtain ⟨h5, h⟩ := ba h
      obtain ⟨h6, h7⟩ := ba h
      obtain rfl := of_decide_eq_true h1
      obtain rfl := of_decide_eq_true h2
      obtain rfl := of_decide_eq_true h0
      exact se_congr (s_ch3 F.un (S.o F C h3) (S.o F C h4) (S.o F C h5) (S.o F C h6) (by simpa using h7)) fun env => by simp only [ev] <;> rfl
    · cases h
  | tup es =>
    simp only [cE] at h
    split at h
    · exact se_congr (s_tup (S.es F C h)) fun env => by simp only [ev] <;> rfl
    · cases h
  | lst es =>
    simp only [cE] at h
    split at h
    · exact se_congr (s_lst (S.es F C h)) fun env => by simp only [ev] <;> rfl
    · cases h
  | ix a i =>
    simp only [cE] at h
    split at h
    · obtain ⟨h1, h⟩ := ba h
      obtain ⟨h2, h3⟩ := ba h
      exact se_congr (s_ix (S.o F C h2) (S.o F C h3) h1) fun env => by simp only [ev] <;> rfl
    · cases h
  | sl a lo hi =>
    simp only [cE] at h
    split at h
    · obtain ⟨h1, h⟩ := ba h
      obtain ⟨h2, h3⟩ := ba h
      exact se_congr (s_sl (S.o F C h1) (S.op F C h2) (S.op F C h3)) fun env => by simp only [ev] <;> rfl
    · cases h
  | call f es =>
    simp only [cE] at h
    split at h
    · rename_i y p ys pos
      obtain ⟨h0, h⟩ := ba h
      split at h
      · rename_i fi e
        obtain ⟨h1, h⟩ := ba h
        obtain ⟨h2, h⟩ := ba h
        obtain ⟨h3, h⟩ := ba h
        obtain ⟨h4, h5⟩ := ba h
        obtain ⟨g1, g2⟩ := C.glo h3
        have A := F.fn_at (C.calm h0) C.tk e (of_decide_eq_true h1)
        obtain rfl := of_decide_eq_true h2
        cases ys with
        | nil =>
          have q : fi.fn.pm = [] ∧ es = [] := by
            cases n with
            | zero => simp [cAs] at h5
            | succ m =>
              cases q : fi.fn.pm with
              | nil => cases es with
                | nil => exact ⟨rfl, rfl⟩
                | cons a b => rw [q] at h5; simp [cAs] at h5
              | cons a b => rw [q] at h5; cases a <;> cases es <;> simp [cAs] at h5
          rw [q.1] at A
          obtain rfl := q.2
          exact se_congr (s_call0 A g1 g2) fun env => by simp only [ev, args, Res.bind_ok] <;> rfl
        | cons y0 ys => exact se_congr (s_call A g1 g2 (S.as_ F C h5) h4 (by simp)) fun env => by simp only [ev] <;> rfl
      · cases h
    · cases h
  | mth k f o es =>
    simp only [cE] at h
    split at h
    · obtain ⟨h0, h⟩ := ba h
      split at h
      · rename_i fi e
        obtain ⟨h1, h⟩ := ba h
        obtain ⟨h2, h⟩ := ba h
        obtain ⟨h3, h⟩ := ba h
        obtain ⟨h4, h⟩ := ba h
        obtain ⟨h5, h⟩ := ba h
        obtain ⟨h6, h⟩ := ba h
        obtain ⟨h7, h8⟩ := ba h
        have A := F.mt_at (C.calm h0) C.tk e (of_decide_eq_true h1)
        obtain rfl := of_decide_eq_true h2
        refine se_congr (s_mth A (S.e F C h7) (S.as_ F C h8) h6 (of_decide_eq_true h5) h3 (beq_iff_eq.mpr (of_decide_eq_true h4)) fun ey => ?_) fun env => by simp only [ev] <;> rfl
        subst ey
        cases n with
        | zero => simp [cAs] at h8
        | succ m =>
          cases q : fi.fn.pm.tail with
          | nil =>
            cases es with
            | nil => exact ⟨rfl, fun env => by simp only [args]⟩
            | cons a b => rw [q] at h8; simp [cAs] at h8
          | cons a b => rw [q] at h8; cases a <;> cases es <;> simp [cAs] at h8
      · cases h
    · cases h
  | mk f es =>
    simp only [cE] at h
    split at h
    · obtain ⟨h0, h⟩ := ba h
      split at h
      · rename_i fi e
        split at h
        · rename_i k ek
          split at h
          · rename_i ci ec
            obtain ⟨h1, h⟩ := ba h
            obtain ⟨h2, h⟩ := ba h
            obtain ⟨h3, h4⟩ := ba h
            obtain rfl := of_decide_eq_true h1
            obtain ⟨g1, g2⟩ := C.glo h2
            exact se_congr (s_mk (F.mk_at (C.calm h0) C.tk e ek ec) g1 g2 (S.as_ F C h4) h3 (by simp)) fun env => by simp only [ev] <;> rfl
          · cases h
        · cases h
      · cases h
    · cases h
  | fld o k j =>
    simp only [cE] at h
    split at h
    · obtain ⟨h1, h⟩ := ba h
      obtain ⟨h2, h⟩ := ba h
      split at h
      · rename_i ci ec
        exact se_congr (s_fld (S.e F C h2) h1 (F.cls_ok ec) (of_decide_eq_true h)) fun env => by simp only [ev] <;> rfl
      · cases h
    · cases h
  | xf i k j =>
    simp only [cE] at h
    split at h
    · obtain ⟨h1, h⟩ := ba h
      split at h
      · rename_i xi ec
        obtain ⟨g1, g2, g3, g4⟩ := C.var h1
        have en := of_decide_eq_true h
        obtain ⟨_, _, _, q4, q5, _⟩ := F.exc k xi ec
        exact se_congr (s_xf g1 g2 g3 g4 q4 ec (q5 _ (List.mem_of_getElem? en)) en C.hand) fun env => by simp only [ev] <;> rfl
      · cases h
    · cases h
  | sf i k j =>
    simp only [cE] at h
    split at h
    · obtain ⟨h1, h⟩ := ba h
      split at h
      · rename_i ci ec
        obtain ⟨g1, g2, g3, g4⟩ := C.var h1
        exact se_congr (s_sf g1 g2 g3 g4 (F.cls_ok ec) (of_decide_eq_true h)) fun env => by simp only [ev] <;> rfl
      · cases h
    · cases h
  | isx i =>
    simp only [cE] at h
    split at h
    · obtain ⟨h1, h⟩ := ba h
      obtain ⟨h2, h⟩ := ba h
      obtain ⟨h3, h⟩ := ba h
      obtain ⟨h4, h5⟩ := ba h
      obtain ⟨g1, g2, g3, g4⟩ := C.var h5
      obtain rfl := of_decide_eq_true h1
      obtain rfl := of_decide_eq_true h3
      exact se_congr (s_isx g1 g2 g3 g4 (C.glo h2).1 (F.free _ (by decide)) (C.glo h4).1 (F.free _ (by decide)) (fun k xi e => (F.exc k xi e).2.2.2.2.2) C.hand) fun env => by simp only [ev] <;> rfl
    · cases h
  | b1 b a =>
    simp only [cE] at h
    split at h
    · obtain ⟨hk, h⟩ := ba h
      obtain ⟨h0, h⟩ := ba h
      obtain ⟨h1, h⟩ := ba h
      obtain ⟨h2, h⟩ := ba h
      obtain ⟨h3, h4⟩ := ba h
      obtain rfl := of_decide_eq_true h1
      exact se_congr (s_b1 hk ((Bool.or_eq_true_iff.mp h0).imp id C.calm) (C.glo h2).1 (F.free _ (b1_free b)) (S.o F C h4) h3) fun env => by simp only [ev] <;> rfl
    · obtain ⟨hk, h⟩ := ba h
      obtain ⟨h0, h⟩ := ba h
      obtain ⟨h1, h⟩ := ba h
      obtain ⟨h5, h⟩ := ba h
      obtain ⟨h2, h⟩ := ba h
      obtain ⟨h3, h4⟩ := ba h
      obtain rfl := of_decide_eq_true h1
      obtain rfl := of_decide_eq_true h5
      cases b with
      | sortr => exact se_congr (s_sortr (C.calm h0) (C.glo h2).1 (F.free _ (by decide)) (S.o F C h4) h3) fun env => by simp only [ev] <;> rfl
      | _ => exact absurd hk (by decide)
    · cases h
  | b2 b a d =>
    simp only [cE] at h
    split at h
    · obtain ⟨h0, h⟩ := ba h
      obtain ⟨h1, h⟩ := ba h
      obtain ⟨h2, h⟩ := ba h
      obtain ⟨h3, h⟩ := ba h
      obtain ⟨h4, h⟩ := ba h
      obtain ⟨h5, h6⟩ := ba h
      obtain rfl := of_decide_eq_true h1
      exact se_congr (s_b2 (C.calm h0) (C.glo h2).1 (F.free _ (b2_free b)) (S.o F C h5) (S.o F C h6) h3 h4) fun env => by simp only [ev] <;> rfl
    · cases h
  | isi a t =>
    simp only [cE] at h
    split at h
    · obtain ⟨h1, h⟩ := ba h
      obtain ⟨h2, h⟩ := ba h
      obtain ⟨h3, h⟩ := ba h
      obtain ⟨h4, h⟩ := ba h
      obtain ⟨h5, h6⟩ := ba h
      obtain rfl := of_decide_eq_true h1
      obtain rfl := of_decide_eq_true h3
      exact se_congr (s_isi (C.glo h2).1 (F.free _ (by decide)) (C.glo h4).1 (F.free _ (ty_free t)) (S.o F C h6) h5) fun env => by simp only [ev] <;> rfl
    · cases h
  | m1 m o a =>
    simp only [cE] at h
    split at h
    · obtain ⟨h1, h⟩ := ba h
      obtain ⟨h2, h⟩ := ba h
      obtain ⟨h3, h⟩ := ba h
      obtain ⟨h4, h⟩ := ba h
      obtain ⟨h5, h6⟩ := ba h
      obtain rfl := of_decide_eq_true h1
      exact se_congr (s_m1 (S.e F C h5) (S.o F C h6) h3 h2 (beq_iff_eq.mpr (of_decide_eq_true h4))) fun env => by simp only [ev] <;> rfl
    · cases h
  | comp tg it cs el own =>
    simp only [cE] at h
    split at h
    · obtain ⟨h1, h⟩ := ba h
      obtain ⟨h2, h⟩ := ba h
      obtain ⟨h3, h⟩ := ba h
      obtain ⟨h4, h5⟩ := ba h
      obtain rfl := of_decide_eq_true h1
      obtain ⟨b1, b2, b3, b4⟩ := S.bk F C h2 h5
      refine se_congr (s_comp (C.calm h2) C.nd (S.ic F C h4) b1 b4 h3 (by rw [b2]; exact b3)) fun env => ?_
      rw [b2]
      simp only [ev]
      rfl
    · cases h
  | fmt a =>
    simp only [cE] at h
    split at h
    · obtain ⟨h1, h2⟩ := ba h
      obtain rfl := of_decide_eq_true h1
      exact se_congr (s_fmt (S.e F C h2)) fun env => by simp only [ev]
    · cases h
  | js es =>
    simp only [cE] at h
    split at h
    · exact se_congr (s_js (S.js F C h)) fun env => by simp only [ev]
    · cases h
  | lrg a =>
    simp only [cE] at h
    split at h
    · obtain ⟨h0, h⟩ := ba h
      obtain ⟨h1, h⟩ := ba h
      obtain ⟨h2, h⟩ := ba h
      obtain ⟨h3, h⟩ := ba h
      obtain ⟨h4, h⟩ := ba h
      obtain ⟨h5, h6⟩ := ba h
      obtain rfl := of_decide_eq_true h1
      obtain rfl := of_decide_eq_true h3
      exact se_congr (s_lrg (C.calm h0) (C.glo h2).1 (F.free _ (by decide)) (C.glo h4).1 (F.free _ (by decide)) (S.e F C h6) h5) fun env => by simp only [ev]
    · cases h
theorem sp_congr {e : Expr} {f g : Env → Res D} (h : SP' X T ca xa cx G0 H0 W e f) (q : ∀ env, f env = g env) : SP' X T ca xa cx G0 H0 W e g := by
  have : f = g := funext q
  rw [← this]
  exact h
theorem sq_congr {e : Expr} {f g : Env → Res D} (h : SQ X T ca xa cx G0 H0 W e f) (q : ∀ env, f env = g env) : SQ X T ca xa cx G0 H0 W e g := by
  have : f = g := funext q
  rw [← this]
  exact h
theorem sa_congr {e : List Expr} {f g : Env → Res (List D)} (h : SA X T ca xa cx G0 H0 W e f) (q : ∀ env, f env = g env) : SA X T ca xa cx G0 H0 W e g := by
  have : f = g := funext q
  rw [← this]
  exact h
theorem sar_congr {ms : List Bool} {e : List Expr} {f g : Env → Res (List D)} (h : SAR X T ca xa cx G0 H0 W ms e f) (q : ∀ env, f env = g env) : SAR X T ca xa cx G0 H0 W ms e g := by
  have : f = g := funext q
  rw [← this]
  exact h
theorem so_congr {e : Option Expr} {f g : Env → Res (Option Int)} (h : SO X T ca xa cx G0 H0 W e f) (q : ∀ env, f env = g env) : SO X T ca xa cx G0 H0 W e g := by
  have : f = g := funext q
  rw [← this]
  exact h
theorem st_congr {e : Expr} {f g : Env → Res Bool} (h : ST X T ca xa cx G0 H0 W e f) (q : ∀ env, f env = g env) : ST X T ca xa cx G0 H0 W e g := by
  have : f = g := funext q
  rw [← this]
  exact h
theorem sw_congr {e : Expr} {f g : Env → Res Bool} (h : SW X T ca xa cx G0 H0 W e f) (q : ∀ env, f env = g env) : SW X T ca xa cx G0 H0 W e g := by
  have : f = g := funext q
  rw [← this]
  exact h
theorem sif_congr {tg e : Expr} {f g : Env → Res (List D)} (h : SIF X T ca xa cx G0 H0 W tg e f) (q : ∀ env, f env = g env) : SIF X T ca xa cx G0 H0 W tg e g := by
  have : f = g := funext q
  rw [← this]
  exact h
theorem sic_congr {tg e : Expr} {f g : Env → Res (List D)} (h : SIC X T ca xa cx G0 H0 W tg e f) (q : ∀ env, f env = g env) : SIC X T ca xa cx G0 H0 W tg e g := by
  have : f = g := funext q
  rw [← this]
  exact h
theorem step_bo (S : SndE n T ca xa K) {o : BoolOp} {ys : List Expr} {p : Pos} {t : E} (F : Kf X T ca xa K) (C : Cok X c cx W) (h : cBo T (n + 1) c o ys t = true) : SE X T ca xa cx G0 H0 W (.BoolOp o ys p) (ev K t) := by
  unfold cBo at h
  split at h
  · cases h
  · rename_i e1
    cases e1
    exact s_one (S.e F C h)
  · rename_i e1
    cases e1
    obtain ⟨h1, h2⟩ := ba h
    exact se_congr (s_and (S.e F C h1) (S.bo F C h2)) fun env => by simp only [ev] <;> rfl
  · rename_i e1
    cases e1
    obtain ⟨h1, h2⟩ := ba h
    exact se_congr (s_or (S.e F C h1) (S.bo F C h2)) fun env => by simp only [ev] <;> rfl
  · cases h
theorem step_o (S : SndE n T ca xa K) {x : Expr} {t : O} (F : Kf X T ca xa K) (C : Cok X c cx W) (h : cO T (n + 1) c x t = true) : SP' X T ca xa cx G0 H0 W x (po K t) := by
  cases t with
  | s i =>
    simp only [cO] at h
    split at h
    · obtain ⟨h1, h2, h3, h4⟩ := C.var h
      exact sp_congr (s_peek h1 h2 h3 h4) fun env => by simp only [po] <;> rfl
    · cases h
  | e e =>
    simp only [cO] at h
    exact sp_congr (s_toP (S.e F C h)) fun env => by simp only [po] <;> rfl
theorem step_q (S : SndE n T ca xa K) {x : Expr} {t : O} (F : Kf X T ca xa K) (C : Cok X c cx W) (h : cQ T (n + 1) c x t = true) : SQ X T ca xa cx G0 H0 W x (pt K t) := by
  cases t with
  | s i =>
    simp only [cQ] at h
    split at h
    · obtain ⟨h1, h2, h3, h4⟩ := C.var h
      exact sq_congr (s_peekQ h1 h2 h3 h4) fun env => by simp only [pt] <;> rfl
    · cases h
  | e e =>
    simp only [cQ] at h
    exact sq_congr (s_toQ (S.e F C h)) fun env => by simp only [pt] <;> rfl
theorem step_js (S : SndE n T ca xa K) {x : List Expr} {t : List E} (F : Kf X T ca xa K) (C : Cok X c cx W) (h : cJs T (n + 1) c x t = true) : SJ X T ca xa cx G0 H0 W x (js K t) := by
  cases x with
  | nil => cases t with
    | nil =>
      have e : js K [] = fun acc _ => .ok (.val (.str acc)) := by funext acc env; rw [js]
      rw [e]
      exact sj_nil
    | cons e es => cases h
  | cons y ys => cases t with
    | nil => cases h
    | cons e es =>
      simp only [cJs] at h
      obtain ⟨h1, h2⟩ := ba h
      have q : js K (e :: es) = fun acc env => (ev K e env).bind fun x => jsStep acc x fun y => js K es y env := by funext acc env; rw [js]
      rw [q]
      exact sj_cons (S.e F C h1) (S.js F C h2)
theorem step_es (S : SndE n T ca xa K) {x : List Expr} {t : List E} (F : Kf X T ca xa K) (C : Cok X c cx W) (h : cEs T (n + 1) c x t = true) : SA X T ca xa cx G0 H0 W x (evs K t) := by
  unfold cEs at h
  split at h
  · cases h
  · exact sa_congr s_nil fun env => by simp only [evs] <;> rfl
  · rename_i e1
    cases e1
    obtain ⟨h0, h⟩ := ba h
    obtain ⟨h1, h2⟩ := ba h
    exact sa_congr (s_cons (S.e F C h1) (S.es F C h2) h0) fun env => by simp only [evs] <;> rfl
  · cases h
theorem step_as (S : SndE n T ca xa K) {ms : List Bool} {x : List Expr} {t : List A} (F : Kf X T ca xa K) (C : Cok X c cx W) (h : cAs T (n + 1) c ms x t = true) : SAR X T ca xa cx G0 H0 W ms x (args K t) := by
  unfold cAs at h
  split at h
  · cases h
  · exact sar_congr r_nil fun env => by simp only [args] <;> rfl
  · rename_i e1
    cases e1
    obtain ⟨h0, h⟩ := ba h
    obtain ⟨h1, h2⟩ := ba h
    exact sar_congr (r_look (S.o F C h1) (S.as_ F C h2) h0) fun env => by simp only [args, arg] <;> rfl
  · rename_i e1
    cases e1
    obtain ⟨h0, h⟩ := ba h
    obtain ⟨h1, h2⟩ := ba h
    exact sar_congr (r_stay (s_toD (S.e F C h1)) (S.as_ F C h2) h0) fun env => by simp only [args, arg] <;> rfl
  · cases h
theorem step_op (S : SndE n T ca xa K) {x : Option Expr} {t : Option E} (F : Kf X T ca xa K) (C : Cok X c cx W) (h : cOp T (n + 1) c x t = true) : SO X T ca xa cx G0 H0 W x (part K t) := by
  unfold cOp at h
  split at h
  · cases h
  · exact so_congr o_none fun env => by simp only [part] <;> rfl
  · rename_i e1
    cases e1
    exact so_congr (o_some (S.e F C h)) fun env => by simp only [part] <;> rfl
  · cases h
theorem step_t (S : SndE n T ca xa K) {x : Expr} {t : PL.T} (F : Kf X T ca xa K) (C : Cok X c cx W) (h : cT T (n + 1) c x t = true) : ST X T ca xa cx G0 H0 W x (tv K t) := by
  cases t with
  | v o =>
    simp only [cT] at h
    obtain ⟨h1, h2⟩ := ba h
    exact st_congr (t_val (S.o F C h2) (truth_ok h1)) fun env => by simp only [tv] <;> rfl
  | not a =>
    simp only [cT] at h
    split at h
    · exact st_congr (t_not (S.t F C h)) fun env => by simp only [tv] <;> rfl
    · cases h
  | and a b =>
    simp only [cT] at h
    split at h
    · obtain ⟨h1, h2⟩ := ba h
      exact st_congr (w_and (S.t F C h1) (S.w F C h2)).pt fun env => by simp only [tv] <;> rfl
    · cases h
  | or a b =>
    simp only [cT] at h
    split at h
    · obtain ⟨h1, h2⟩ := ba h
      exact st_congr (w_or (S.t F C h1) (S.w F C h2)).pt fun env => by simp only [tv] <;> rfl
    · cases h
  | cmp o a b =>
    simp only [cT] at h
    split at h
    · obtain ⟨h1, h⟩ := ba h
      obtain ⟨h2, h⟩ := ba h
      obtain ⟨h3, h4⟩ := ba h
      obtain rfl := of_decide_eq_true h1
      exact st_congr (t_cmp F.un (S.o F C h2) (S.o F C h3) (by simpa using h4)) fun env => by simp only [tv] <;> rfl
    · cases h
  | ch2 o o' a b d =>
    simp only [cT] at h
    split at h
    · obtain ⟨h1, h⟩ := ba h
      obtain ⟨h2, h⟩ := ba h
      obtain ⟨h3, h⟩ := ba h
      obtain ⟨h4, h⟩ := ba h
      obtain ⟨h5, h6⟩ := ba h
      obtain rfl := of_decide_eq_true h1
      obtain rfl := of_decide_eq_true h2
      exact st_congr (t_ch2 F.un (S.o F C h3) (S.o F C h4) (S.o F C h5) (by simpa using h6)) fun env => by simp only [tv] <;> rfl
    · cases h
  | ch3 o o' o'' a b d e =>
    simp only [cT] at h
    split at h
    · obtain ⟨h1, h⟩ := ba h
      obtain ⟨h2, h⟩ := ba h
      obtain ⟨h0, h⟩ := ba h
      obtain ⟨h3, h⟩ := ba h
      obtain ⟨h4, h⟩ := ba h
      obtain ⟨h5, h⟩ := ba h
      obtain ⟨h6, h7⟩ := ba h
      obtain rfl := of_decide_eq_true h1
      obtain rfl := of_decide_eq_true h2
      obtain rfl := of_decide_eq_true h0
      exact st_congr (t_ch3 F.un (S.o F C h3) (S.o F C h4) (S.o F C h5) (S.o F C h6) (by simpa using h7)) fun env => by simp only [tv] <;> rfl
    · cases h
theorem w_one {o : BoolOp} {a : Expr} {f : Env → Res Bool} {pos : Pos} (ha : ST X T ca xa cx G0 H0 W a f) : SW X T ca xa cx G0 H0 W (.BoolOp o [a] pos) f := by
  cases o with
  | And => exact w_and1 ha
  | Or => exact w_or1 ha
theorem step_w (S : SndE n T ca xa K) {o : BoolOp} {ys : List Expr} {p : Pos} {t : PL.T} (F : Kf X T ca xa K) (C : Cok X c cx W) (h : cW T (n + 1) c o ys t = true) : SW X T ca xa cx G0 H0 W (.BoolOp o ys p) (tv K t) := by
  unfold cW at h
  split at h
  · cases h
  · rename_i e1
    cases e1
    exact w_one (S.t F C h)
  · rename_i e1
    cases e1
    obtain ⟨h1, h2⟩ := ba h
    exact sw_congr (w_and (S.t F C h1) (S.w F C h2)) fun env => by simp only [tv] <;> rfl
  · rename_i e1
    cases e1
    obtain ⟨h1, h2⟩ := ba h
    exact sw_congr (w_or (S.t F C h1) (S.w F C h2)) fun env => by simp only [tv] <;> rfl
  · cases h
theorem isZero_ok {a : E} (h : isZero a = true) : a = .int 0 := by
  cases a with
  | int i => rw [of_decide_eq_true h]
  | _ => cases h
theorem fr_range : ("range" : Str) ∈ freeNames := by decide
theorem fr_rev : ("reversed" : Str) ∈ freeNames := by decide
theorem step_if (S : SndE n T ca xa K) {tg x : Expr} {t : PL.It} (F : Kf X T ca xa K) (C : Cok X c cx W) (h : cIF T (n + 1) c tg x t = true) : SIF X T ca xa cx G0 H0 W tg x (itsF K t) := by
  cases t with
  | r1 a =>
    simp only [cIF] at h
    split at h
    · obtain ⟨h1, h⟩ := ba h
      obtain ⟨h2, h⟩ := ba h
      obtain ⟨h3, h4⟩ := ba h
      obtain rfl := of_decide_eq_true h1
      exact sif_congr (sif_r1 (C.glo h2).1 (F.free _ fr_range) (S.e F C h4) h3) fun env => by simp only [itsF, its] <;> rfl
    · cases h
  | r2 a b =>
    simp only [cIF] at h
    split at h
    · obtain ⟨h1, h⟩ := ba h
      obtain ⟨h2, h⟩ := ba h
      obtain ⟨h3, h⟩ := ba h
      obtain ⟨h4, h⟩ := ba h
      obtain ⟨h5, h6⟩ := ba h
      obtain rfl := of_decide_eq_true h1
      exact sif_congr (sif_r2 (C.glo h2).1 (F.free _ fr_range) (S.e F C h5) (S.e F C h6) h3 h4) fun env => by simp only [itsF, its] <;> rfl
    · cases h
  | r3 a b k =>
    simp only [cIF] at h
    split at h
    · obtain ⟨h1, h⟩ := ba h
      obtain ⟨h2, h⟩ := ba h
      obtain ⟨h3, h⟩ := ba h
      obtain ⟨h4, h⟩ := ba h
      obtain ⟨h5, h⟩ := ba h
      obtain ⟨h6, h⟩ := ba h
      obtain ⟨h7, h8⟩ := ba h
      obtain rfl := of_decide_eq_true h1
      exact sif_congr (sif_r3 (C.glo h2).1 (F.free _ fr_range) (S.e F C h6) (S.e F C h7) (S.e F C h8) h3 h4 h5) fun env => by simp only [itsF, its] <;> rfl
    · cases h
  | revr a b =>
    simp only [cIF] at h
    split at h
    · obtain ⟨h1, h⟩ := ba h
      obtain ⟨h2, h⟩ := ba h
      obtain ⟨k1, h⟩ := ba h
      obtain ⟨k2, h⟩ := ba h
      obtain ⟨h3, h⟩ := ba h
      obtain ⟨h4, h⟩ := ba h
      obtain ⟨h5, h6⟩ := ba h
      obtain rfl := of_decide_eq_true h1
      obtain rfl := of_decide_eq_true k1
      exact sif_congr (sif_rr (C.glo k2).1 (F.free _ fr_range) (C.glo h2).1 (F.free _ fr_rev) (S.e F C h5) (S.e F C h6) h3 h4) fun env => by simp only [itsF, its] <;> rfl
    · obtain ⟨h1, h⟩ := ba h
      obtain ⟨h2, h⟩ := ba h
      obtain ⟨k1, h⟩ := ba h
      obtain ⟨k2, h⟩ := ba h
      obtain ⟨h3, h⟩ := ba h
      obtain ⟨h5, h6⟩ := ba h
      obtain rfl := of_decide_eq_true h1
      obtain rfl := of_decide_eq_true k1
      obtain rfl := isZero_ok h5
      exact sif_congr (sif_rr1 (C.glo k2).1 (F.free _ fr_range) (C.glo h2).1 (F.free _ fr_rev) (S.e F C h6) h3) fun env => by simp only [itsF, its, ev] <;> rfl
    · cases h
  | sq o =>
    cases o with
    | s i =>
      simp only [cIF] at h
      split at h
      · obtain ⟨h1, h2, h3, h4⟩ := C.var h
        exact sif_congr (sif_s h1 h2 h3 h4) fun env => by simp only [itsF] <;> rfl
      · cases h
    | e e =>
      simp only [cIF] at h
      exact sif_congr (sif_e (S.e F C h)) fun env => by simp only [itsF, its, po] <;> rfl
  | rev o =>
    cases o with
    | s i =>
      simp only [cIF] at h
      split at h
      · obtain ⟨k1, h⟩ := ba h
        obtain ⟨k2, h⟩ := ba h
        obtain ⟨h1, h2, h3, h4⟩ := C.var h
        obtain rfl := of_decide_eq_true k1
        exact sif_congr (sif_revs (C.glo k2).1 (F.free _ fr_rev) h1 h2 h3 h4) fun env => by simp only [itsF] <;> rfl
      · cases h
    | e e =>
      simp only [cIF] at h
      split at h
      · obtain ⟨k1, h⟩ := ba h
        obtain ⟨k2, h⟩ := ba h
        obtain ⟨k3, k4⟩ := ba h
        obtain rfl := of_decide_eq_true k1
        exact sif_congr (sif_reve (C.glo k2).1 (F.free _ fr_rev) (S.e F C k4) k3) fun env => by simp only [itsF, its, po] <;> rfl
      · cases h
theorem step_ic (S : SndE n T ca xa K) {tg x : Expr} {t : PL.It} (F : Kf X T ca xa K) (C : Cok X c cx W) (h : cIC T (n + 1) c tg x t = true) : SIC X T ca xa cx G0 H0 W tg x (its K t) := by
  cases t with
  | sq o =>
    simp only [cIC] at h
    exact sic_congr (sic_o (S.o F C h)) fun env => by simp only [its] <;> rfl
  | rev o =>
    simp only [cIC] at h
    split at h
    · obtain ⟨k1, h⟩ := ba h
      obtain ⟨k2, h⟩ := ba h
      obtain ⟨k3, k4⟩ := ba h
      obtain rfl := of_decide_eq_true k1
      exact sic_congr (sic_rev (C.glo k2).1 (F.free _ fr_rev) (S.o F C k4) k3) fun env => by simp only [its] <;> rfl
    · cases h
  | r1 a =>
    simp only [cIC] at h
    exact sic_congr (si_C (S.ifr F C h)) fun env => by simp only [itsF] <;> rfl
  | r2 a b =>
    simp only [cIC] at h
    exact sic_congr (si_C (S.ifr F C h)) fun env => by simp only [itsF] <;> rfl
  | r3 a b k =>
    simp only [cIC] at h
    exact sic_congr (si_C (S.ifr F C h)) fun env => by simp only [itsF] <;> rfl
  | revr a b =>
    simp only [cIC] at h
    exact sic_congr (si_C (S.ifr F C h)) fun env => by simp only [itsF] <;> rfl
theorem step_bk (S : SndE n T ca xa K) {scope : Scope} {tg' elt : Expr} {ifs : List Expr} {tg : Tg} {cs : List PL.T} {el : E} {own : List Nat} (F : Kf X T ca xa K) (C : Cok X c cx W) (hc : c.calm = true) (h : cBk T (n + 1) c scope tg' ifs elt tg cs el own = true) :
    BlkOk X.N X.env.scope scope (ownP c own) ∧ (ownP c own).map (·.2) = own ∧ (∀ i ∈ tgIx tg, i ∈ own) ∧ BlkT X T ca xa cx G0 H0 scope tg' tg ifs elt (tvs K cs) (ev K el) := by
  simp only [cBk] at h
  obtain ⟨h1, h⟩ := ba h
  obtain ⟨h2, h⟩ := ba h
  obtain ⟨h3, h⟩ := ba h
  obtain ⟨h4, h⟩ := ba h
  obtain ⟨h5, h6⟩ := ba h
  have b := blkOk_by h1
  have C' : ∀ (s : Shared) (H : Hp) (Ca : Addr) (cl : List (Str × Addr)) (fp : List Addr), Cok (X.blk s H scope (compEnvC scope cl Ca X.env) fp) (cBlk c scope) cx W0 := fun s H Ca cl fp => C.blkc hc s H scope cl Ca fp b.kind
  have F' : ∀ (s : Shared) (H : Hp) (Ca : Addr) (cl : List (Str × Addr)) (fp : List Addr), Kf (X.blk s H scope (compEnvC scope cl Ca X.env) fp) T ca xa K := fun s H Ca cl fp => F.blk s H scope _ fp
  refine ⟨by rw [C.N, C.sc]; exact b, of_decide_eq_true h2, fun i hi => of_decide_eq_true (List.all_eq_true.mp h4 i hi), fun s H Ca cl fp => ?_, fun s H Ca cl fp => ?_, fun s H Ca cl fp => S.e (F' s H Ca cl fp) (C' s H Ca cl fp) h5⟩
  · exact pg_tg (X := X.blk s H scope (compEnvC scope cl Ca X.env) fp) (C' s H Ca cl fp).st ((C' s H Ca cl fp).calm hc) C.nd (by
      show tgB X.N _ tg' tg = true
      rw [C.N]
      exact h3)
  · split at h6
    · refine pts_nil.imp fun σ H Q ⟨G, env, rel, p⟩ => ?_
      simp only [tvs] at p
      exact p true H G (Step.refl rel.gh) rfl
    · have q := pts_one (S.t (F' s H Ca cl fp) (C' s H Ca cl fp) h6 : ST (X.blk s H scope (compEnvC scope cl Ca X.env) fp) T ca xa cx G0 H0 W0 _ _)
      refine q.imp fun σ H Q ⟨G, env, rel, p⟩ => ?_
      simp only [tvs] at p
      exact ⟨G, env, rel, p⟩
    · cases h6
theorem snd_all : ∀ n : Nat, SndE n T ca xa K
  | 0 => snd_zero
  | n + 1 =>
    have S := snd_all n
    { e := fun F C h => step_e S F C h
      bo := fun F C h => step_bo S F C h
      o := fun F C h => step_o S F C h
      q := fun F C h => step_q S F C h
      es := fun F C h => step_es S F C h
      as_ := fun F C h => step_as S F C h
      js := fun F C h => step_js S F C h
      op := fun F C h => step_op S F C h
      t := fun F C h => step_t S F C h
      w := fun F C h => step_w S F C h
      ic := fun F C h => step_ic S F C h
      ifr := fun F C h => step_if S F C h
      bk := fun F C hc h => step_bk S F C hc h }
end
end PL

set_option linter.all false
set_option Elab.async false
set_option maxRecDepth 100000
set_option maxHeartbeats 4000000
/-! The checker of statements. -/
namespace PL
open PySem PySem.Spec PyProof.Rows L2
/-- may the name be stored -/
def setB (c : Cc) (i : Nat) (x : Str) : Bool := decide (c.N[i]? = some x) && stB c x
def cSuite (c : Cc) : Cc := { c with calm := false, hot := true }
mutual
def cS (T : Tab) : Nat → Cc → Stmt → S → Bool
  | 0, _, _, _ => false
  | n + 1, c, st, .asg fr i e => (match st with
    | .Assign [.Name x p1] v pos => (noComp v && (setB c i x && cE T n c v e)) || (match v, e with
      | .ListComp elt [⟨tg', iter, ifs, a⟩] scope p2, .comp tg it cs el own => (decide (c.N[i]? = some x) && (locB c.sc x && (decide (p1.line = p2.line) && (!(scope.names.any fun (y, k) => y == x && (k == .local || k == .cell)) && (decide (a = 0) && (c.calm && (noSet iter && (cIC T n c tg' iter it && cBk T n c scope tg' ifs elt tg cs el own)))))))) || (celB c.sc x && (setB c i x && cE T n c v e))
      | .ListComp elt gs scope p2, e => celB c.sc x && (setB c i x && cE T n c v e)
      | _, _ => false)
    | _ => false)
  | n + 1, c, st, .asgt fr is e => (match st with
    | .Assign [.Tuple es _ _] v _ => c.calm && (namesB c.N (stB c) es is && (noTup v && cE T n c v e))
    | _ => false)
  | n + 1, c, st, .aug i o e => (match st with
    | .AugAssign (.Name x _) op v _ => decide (op = augOp o) && (setB c i x && cE T n c v e)
    | _ => false)
  | n + 1, c, st, .app fr i e => (match st with
    | .Expr (.Call (.Attribute (.Name x _) m ap) [v] [] p) _ => decide (m = "append") && (varB c i x && (noStar v && (decide (ap.endLine = p.line) && cE T n c v e)))
    | _ => false)
  | n + 1, c, st, .seti fr i k e => (match st with
    | .Assign [.Subscript (.Name x _) y _] v _ => varB c i x && (noSlice y && (cE T n c v e && cE T n c y k))
    | _ => false)
  | n + 1, c, st, .augi i k o e => (match st with
    | .AugAssign (.Subscript (.Name x _) y _) op v _ => decide (op = augOp o) && (varB c i x && (noSlice y && (cE T n c v e && cE T n c y k)))
    | _ => false)
  | n + 1, c, st, .setf fr k j e => (match st with
    | .Assign [.Attribute (.Name x _) m _] v _ => varB c 0 x && (cE T n c v e && (match T.cls[k]? with
      | some ci => decide (ci.fields[j]? = some m)
      | none => false))
    | _ => false)
  | n + 1, c, st, .ite fr t a b => (match st with
    | .If v xs ys _ => cT T n c v t && (cSs T n c xs a && cSs T n c ys b)
    | _ => false)
  | n + 1, c, st, .whl fr t b => (match st with
    | .While v xs [] _ => c.calm && (cT T n c v t && cSs T n c xs b)
    | _ => false)
  | n + 1, c, st, .forl fr tg it b => (match st with
    | .For v x xs [] _ => c.calm && (tgB c.N (stB c) v tg && (noSet x && (cIF T n c v x it && cSs T n c xs b)))
    | _ => false)
  | n + 1, c, st, .ret fr e => (match st with
    | .Return (some v) _ => cE T n c v e
    | _ => false)
  | n + 1, c, st, .retn => (match st with
    | .Return none _ => true
    | _ => false)
  | n + 1, c, st, .reto i => (match st with
    | .Return (some (.Name x _)) _ => varB c i x
    | _ => false)
  | n + 1, c, st, .ex fr e => (match st with
    | .Expr v _ => noComp v && cE T n c v e
    | _ => false)
  | n + 1, c, st, .pass => (match st with
    | .Pass _ => true
    | .Expr (.Constant (.str _) _ _) _ => true
    | _ => false)
  | n + 1, c, st, .cont => (match st with
    | .Continue _ => true
    | _ => false)
  | n + 1, c, st, .rais k es => (match st with
    | .Raise (some (.Call (.Name x _) (y :: ys) [] _)) none _ => c.calm && (glB c x && (match T.exs[k]? with
      | some xi => decide (xi.name = x) && (match xi.fields with
        | [] => (match ys, es with
          | [], [e] => noStar y && cE T n c y e
          | _, _ => false)
        | f0 :: fs => decide (es.length = fs.length + 1) && cEs T n c (y :: ys) es)
      | none => false))
    | _ => false)
  | n + 1, c, st, .try b hs => (match st with
    | .Try xs (h0 :: hds) [] [] _ => c.calm && (cSs T n c xs b && cHs T n c (h0 :: hds) hs)
    | _ => false)
def cSs (T : Tab) : Nat → Cc → List Stmt → List S → Bool
  | 0, _, _, _ => false
  | n + 1, c, [], [] => true
  | n + 1, c, st :: sts, s :: ss => cS T n c st s && cSs T n c sts ss
  | _, _, _, _ => false
def cHs (T : Tab) : Nat → Cc → List ExceptHandler → List (Nat × Option Nat × List S) → Bool
  | 0, _, _, _ => false
  | n + 1, c, [], [] => true
  | n + 1, c, h :: hds, (k, i, b) :: r => (match h with
    | .ExceptHandler (some (.Name x _)) nm (st :: su) _ => glB c x && ((match T.exs[k]? with
      | some xi => decide (xi.name = x)
      | none => false) && ((match nm, i with
      | none, none => true
      | some y, some j => decide (c.N[j]? = some y) && locB c.sc y
      | _, _ => false) && (cSs T n (cSuite c) (st :: su) b && cHs T n c hds r)))
    | _ => false)
  | _, _, _, _ => false
end
/-- what holds of a def's frame -/
structure CokS (X : Cx) (c : Cc) (cx : Hand) (W : WX) : Prop extends Cok X c cx W where
  fr : X.stack = X.env :: X.outer ∧ X.env.frame = some X.env.locals
  po : c.calm = true → PassesOwn (model X.prog X.w) X.A X.env X.xe
section
variable {X : Cx} {T : Tab} {ca xa : Nat → Addr} {cx : Hand} {G0 H0 : Hp} {W : WX} {c : Cc} {K : Ctx} {n : Nat}
structure SndS (n : Nat) (T : Tab) (ca xa : Nat → Addr) (K : Ctx) : Prop where
  s : ∀ {X : Cx} {c : Cc} {cx : Hand} {W : WX} {G0 H0 : Hp} {st : Stmt} {t : S}, Kf X T ca xa K → CokS X c cx W → cS T n c st t = true → SS X T ca xa cx G0 H0 W st (exs K t)
  ss : ∀ {X : Cx} {c : Cc} {cx : Hand} {W : WX} {G0 H0 : Hp} {st : List Stmt} {t : List S}, Kf X T ca xa K → CokS X c cx W → cSs T n c st t = true → SSs X T ca xa cx G0 H0 W st (exss K t)
  hs : ∀ {X : Cx} {c : Cc} {cx : Hand} {W : WX} {G0 H0 : Hp} {st : List ExceptHandler} {t : List (Nat × Option Nat × List S)}, Kf X T ca xa K → CokS X c cx W → cHs T n c st t = true → HdR X T ca xa cx G0 H0 st (t.map fun p => (p.1, p.2.1, exss K p.2.2))
theorem ss_congr {st : Stmt} {f g : Env → Out} (h : SS X T ca xa cx G0 H0 W st f) (q : ∀ env, f env = g env) : SS X T ca xa cx G0 H0 W st g := by
  have : f = g := funext q
  rw [← this]
  exact h
theorem sss_congr {st : List Stmt} {f g : Env → Out} (h : SSs X T ca xa cx G0 H0 W st f) (q : ∀ env, f env = g env) : SSs X T ca xa cx G0 H0 W st g := by
  have : f = g := funext q
  rw [← this]
  exact h
theorem Cok.set (C : Cok X c cx W) {x : Str} {i : Nat} (h : setB c i x = true) : X.N[i]? = some x ∧ Loc X.env.scope x ∧ (X.fn x = true ∨ X.env.scope.names.lookup x = some .local) := by
  unfold setB at h
  simp only [Bool.and_eq_true, decide_eq_true_eq] at h
  obtain ⟨h1, h2⟩ := h
  exact ⟨by rw [C.N]; exact h1, (C.st x h2).1, (C.st x h2).2⟩
theorem Cok.loc (C : Cok X c cx W) {x : Str} (h : locB c.sc x = true) : X.env.scope.names.lookup x = some .local := by
  unfold locB at h
  split at h
  · rename_i e; rw [C.sc]; exact e
  · cases h
theorem Cok.cel (C : Cok X c cx W) {x : Str} (h : celB c.sc x = true) : X.env.scope.names.lookup x = some .cell := by
  unfold celB at h
  split at h
  · rename_i e; rw [C.sc]; exact e
  · cases h
theorem sw_cell {elt : Expr} {gs : List Comprehension} {scope : Scope} {pos py : Pos} {y : Str} {l : Nat} {env : PySem.Env} (hy : env.scope.names.lookup y = some .cell) : swapsWith (.ListComp elt gs scope pos) (some (.Name y py)) l env = pure false := by
  have ky : env.kindOf y = some .cell := hy
  unfold swapsWith
  simp only [ky]
  have e : ((some NameKind.cell : Option NameKind) == some .local) = false := rfl
  simp only [e, Bool.and_false, Bool.false_and]
theorem hdsF_eq (K : Ctx) : ∀ (l : List (Nat × Option Nat × List S)) (k : Nat) (fs : List D) (env : Env), hdsF (l.map fun p => (p.1, p.2.1, exss K p.2.2)) k fs env = hds K l k fs env
  | [], k, fs, env => by simp only [List.map, hdsF, hds]
  | (h, n, b) :: r, k, fs, env => by
    simp only [List.map, hdsF, hds]
    rw [hdsF_eq K r]
    try rfl
theorem CokS.tr (C : CokS X c cx W) (hc : c.calm = true) {W' : WX} (pn : List (Addr × Obj)) (xe : Value → Shared → Prop) (tk : Takes (X.tr pn xe) W') (hp : PassesOwn (model X.prog X.w) X.A X.env xe) : CokS (X.tr pn xe) c cx W' where
  N := C.N
  nd := C.nd
  sc := C.sc
  kind := C.kind
  calm := C.calm
  st := C.st
  tk := tk
  cold := C.cold
  hand := fun a cls d e => by rw [C.cold hc] at e; cases e
  fr := C.fr
  po := fun _ => hp
theorem CokS.suite (C : CokS X c cx W) {a : Addr} {oe : Obj} {cls : Value} {d : Option Addr} (pn : List (Addr × Obj)) (hz : Zc cls d oe) (hv : ∃ vs, oe.data = .fields vs) : CokS (X.suite a ((a, oe) :: pn)) (cSuite c) ⟨cx.hk, some (a, cls, d), cx.ob⟩ W0 where
  N := C.N
  nd := C.nd
  sc := C.sc
  kind := C.kind
  calm := fun z => nomatch z
  st := C.st
  tk := fun u s' ⟨_, _, _, _, _, _, _, _, _, _, _, _, _, _, _, _, w⟩ => w.elim
  cold := fun z => nomatch z
  hand := fun a' cls' d' e => by
    cases e
    exact ⟨oe, List.mem_cons_self, hz, hv⟩
  fr := C.fr
  po := fun z => nomatch z
theorem step_ss (S : SndS n T ca xa K) {st : List Stmt} {t : List PL.S} (F : Kf X T ca xa K) (C : CokS X c cx W) (h : cSs T (n + 1) c st t = true) : SSs X T ca xa cx G0 H0 W st (exss K t) := by
  unfold cSs at h
  split at h
  · cases h
  · exact sss_congr ss_nil fun env => by simp only [exss]
  · rename_i e1
    cases e1
    obtain ⟨h1, h2⟩ := ba h
    exact sss_congr (ss_cons (S.s F C h1) (S.ss F C h2)) fun env => by simp only [exss] <;> rfl
  · cases h
theorem step_hs (S : SndS n T ca xa K) {st : List ExceptHandler} {t : List (Nat × Option Nat × List PL.S)} (F : Kf X T ca xa K) (C : CokS X c cx W) (h : cHs T (n + 1) c st t = true) : HdR X T ca xa cx G0 H0 st (t.map fun p => (p.1, p.2.1, exss K p.2.2)) := by
  unfold cHs at h
  split at h
  · cases h
  · exact .nil
  · rename_i e1
    cases e1
    split at h
    · obtain ⟨h1, h⟩ := ba h
      obtain ⟨h2, h⟩ := ba h
      obtain ⟨h3, h⟩ := ba h
      obtain ⟨h4, h5⟩ := ba h
      obtain ⟨g1, g2⟩ := C.glo h1
      split at h2
      · rename_i xi ex
        obtain rfl := of_decide_eq_true h2
        obtain ⟨q1, _⟩ := F.exc _ xi ex
        have nm : Names _ xi.name (.ref (xa _)) := ⟨g1, g2, .inl q1⟩
        have hm := F.exm _ xi ex
        have r := S.hs (G0 := G0) (H0 := H0) F C h5
        have su : ∀ (a : Addr) (oe : Obj) (cls : Value) (d : Option Addr) (pn : List (Addr × Obj)), Zc cls d oe → (∃ vs, oe.data = .fields vs) → PSs (X.suite a ((a, oe) :: pn)) _ (sR (PX X T ca xa) ⟨cx.hk, some (a, cls, d), cx.ob⟩ G0 H0 W0 _) := fun a oe cls d pn hz hv => S.ss (F.suite a _) (C.suite pn hz hv) h4
        split at h3
        · exact .bare nm hm su r
        · obtain ⟨k1, k2⟩ := ba h3
          exact .named nm hm (by rw [C.N]; exact of_decide_eq_true k1) (C.loc k2) su r
        · cases h3
      · cases h2
    · cases h
  · cases h
theorem step_s (S : SndS n T ca xa K) {st : Stmt} {t : PL.S} (F : Kf X T ca xa K) (C : CokS X c cx W) (h : cS T (n + 1) c st t = true) : SS X T ca xa cx G0 H0 W st (exs K t) := by
  have E := snd_all (T := T) (ca := ca) (xa := xa) (K := K) n
  have C1 := C.toCok
  cases t with
  | asg fr i e =>
    simp only [cS] at h
    split at h
    · rename_i x p1 v pos
      rcases Bool.or_eq_true_iff.mp h with h | h
      · obtain ⟨h1, h⟩ := ba h
        obtain ⟨h2, h3⟩ := ba h
        obtain ⟨g1, g2, g3⟩ := C1.set h2
        exact ss_congr (ss_asg C.nd g1 g2 g3 (E.e F C1 h3) (sw_no h1)) fun env => by simp only [exs] <;> rfl
      · split at h
        · rename_i elt tg' iter ifs a scope p2 tg it cs el own
          rcases Bool.or_eq_true_iff.mp h with h | h
          rotate_left 1
          · obtain ⟨h1, h⟩ := ba h
            obtain ⟨h2, h3⟩ := ba h
            obtain ⟨g1, g2, g3⟩ := C1.set h2
            exact ss_congr (ss_asg C.nd g1 g2 g3 (E.e F C1 h3) (sw_cell (C1.cel h1))) fun env => by simp only [exs] <;> rfl
          obtain ⟨h1, h⟩ := ba h
          obtain ⟨h2, h⟩ := ba h
          obtain ⟨h3, h⟩ := ba h
          obtain ⟨h4, h⟩ := ba h
          obtain ⟨h5, h⟩ := ba h
          obtain ⟨h6, h⟩ := ba h
          obtain ⟨h7, h⟩ := ba h
          obtain ⟨h8, h9⟩ := ba h
          obtain ⟨b1, b2, b3, b4⟩ := E.bk (G0 := G0) (H0 := H0) F C1 h6 h9
          obtain rfl := of_decide_eq_true h5
          have q := ss_setLc (fr := fr) (pos := pos) (p1 := p1) (W := W) (C.calm h6) C.nd (by rw [C.N]; exact of_decide_eq_true h1) (C1.loc h2) C.kind (by simpa using h3) (by simpa using h4) (E.ic F C1 h8) b1 b4 h7 (by rw [b2]; exact b3)
          refine ss_congr q fun env => ?_
          rw [b2]
          simp only [exs, ev]
          rfl
        · obtain ⟨h1, h⟩ := ba h
          obtain ⟨h2, h3⟩ := ba h
          obtain ⟨g1, g2, g3⟩ := C1.set h2
          exact ss_congr (ss_asg C.nd g1 g2 g3 (E.e F C1 h3) (sw_cell (C1.cel h1))) fun env => by simp only [exs] <;> rfl
        · cases h
    · cases h
  | asgt fr is e =>
    simp only [cS] at h
    split at h
    · obtain ⟨h1, h⟩ := ba h
      obtain ⟨h2, h⟩ := ba h
      obtain ⟨h3, h4⟩ := ba h
      exact ss_congr (ss_asgt C.st (C.calm h1) C.nd (by rw [C.N]; exact h2) (E.e F C1 h4) h3) fun env => by simp only [exs] <;> rfl
    · cases h
  | aug i o e =>
    simp only [cS] at h
    split at h
    · obtain ⟨h1, h⟩ := ba h
      obtain ⟨h2, h3⟩ := ba h
      obtain ⟨g1, g2, g3⟩ := C1.set h2
      obtain rfl := of_decide_eq_true h1
      exact ss_congr (ss_aug C.nd g1 g2 g3 (E.e F C1 h3)) fun env => by simp only [exs] <;> rfl
    · cases h
  | app fr i e =>
    simp only [cS] at h
    split at h
    · obtain ⟨h1, h⟩ := ba h
      obtain ⟨h2, h⟩ := ba h
      obtain ⟨h3, h⟩ := ba h
      obtain ⟨h4, h5⟩ := ba h
      obtain ⟨g1, g2, g3, g4⟩ := C1.var h2
      obtain rfl := of_decide_eq_true h1
      exact ss_congr (ss_app g1 g2 g3 g4 (E.e F C1 h5) h3 (beq_iff_eq.mpr (of_decide_eq_true h4))) fun env => by simp only [exs] <;> rfl
    · cases h
  | seti fr i k e =>
    simp only [cS] at h
    split at h
    · obtain ⟨h1, h⟩ := ba h
      obtain ⟨h2, h⟩ := ba h
      obtain ⟨h3, h4⟩ := ba h
      obtain ⟨g1, g2, g3, g4⟩ := C1.var h1
      exact ss_congr (ss_seti g1 g2 g3 g4 (E.e F C1 h3) (E.e F C1 h4) h2) fun env => by simp only [exs] <;> rfl
    · cases h
  | augi i k o e =>
    simp only [cS] at h
    split at h
    · obtain ⟨h0, h⟩ := ba h
      obtain ⟨h1, h⟩ := ba h
      obtain ⟨h2, h⟩ := ba h
      obtain ⟨h3, h4⟩ := ba h
      obtain ⟨g1, g2, g3, g4⟩ := C1.var h1
      obtain rfl := of_decide_eq_true h0
      exact ss_congr (ss_augi g1 g2 g3 g4 (E.e F C1 h3) (E.e F C1 h4) h2) fun env => by simp only [exs] <;> rfl
    · cases h
  | setf fr k j e =>
    simp only [cS] at h
    split at h
    · obtain ⟨h1, h⟩ := ba h
      obtain ⟨h2, h⟩ := ba h
      split at h
      · rename_i ci ec
        obtain ⟨g1, g2, g3, g4⟩ := C1.var h1
        exact ss_congr (ss_setf g1 g2 g3 g4 (E.e F C1 h2) (F.cls_ok ec) (of_decide_eq_true h) (F.cls k ci ec).2.2) fun env => by simp only [exs] <;> rfl
      · cases h
    · cases h
  | ite fr t a b =>
    simp only [cS] at h
    split at h
    · obtain ⟨h1, h⟩ := ba h
      obtain ⟨h2, h3⟩ := ba h
      exact ss_congr (ss_ite (E.t F C1 h1) (S.ss F C h2) (S.ss F C h3)) fun env => by simp only [exs] <;> rfl
    · cases h
  | whl fr t b =>
    simp only [cS] at h
    split at h
    · obtain ⟨h1, h⟩ := ba h
      obtain ⟨h2, h3⟩ := ba h
      exact ss_congr (ss_whl (n := K.fuel) (C.po h1) (E.t F C1 h2) (S.ss F C h3)) fun env => by simp only [exs] <;> rfl
    · cases h
  | forl fr tg it b =>
    simp only [cS] at h
    split at h
    · obtain ⟨h1, h⟩ := ba h
      obtain ⟨h2, h⟩ := ba h
      obtain ⟨h3, h⟩ := ba h
      obtain ⟨h4, h5⟩ := ba h
      exact ss_congr (ss_for (C.po h1) (C.calm h1) C.st C.nd (E.ifr F C1 h4) (by rw [C.N]; exact h2) (fun G0 H0 => S.ss F C h5) h3) fun env => by simp only [exs] <;> rfl
    · cases h
  | ret fr e =>
    simp only [cS] at h
    split at h
    · exact ss_congr (ss_ret (E.e F C1 h)) fun env => by simp only [exs] <;> rfl
    · cases h
  | retn =>
    simp only [cS] at h
    split at h
    · exact ss_congr ss_retn fun env => by simp only [exs] <;> rfl
    · cases h
  | reto i =>
    simp only [cS] at h
    split at h
    · obtain ⟨g1, g2, g3, g4⟩ := C1.var h
      exact ss_congr (ss_reto g1 g2 g3 g4) fun env => by simp only [exs] <;> rfl
    · cases h
  | ex fr e =>
    simp only [cS] at h
    split at h
    · obtain ⟨h1, h2⟩ := ba h
      exact ss_congr (ss_ex (E.e F C1 h2) h1) fun env => by simp only [exs] <;> rfl
    · cases h
  | pass =>
    simp only [cS] at h
    split at h
    · exact ss_congr ss_pass fun env => by simp only [exs] <;> rfl
    · exact ss_congr ss_doc fun env => by simp only [exs] <;> rfl
    · cases h
  | cont =>
    simp only [cS] at h
    split at h
    · exact ss_congr ss_cont fun env => by simp only [exs] <;> rfl
    · cases h
  | rais k es =>
    simp only [cS] at h
    split at h
    · obtain ⟨h1, h⟩ := ba h
      obtain ⟨h2, h⟩ := ba h
      split at h
      · rename_i xi ec
        obtain ⟨h3, h⟩ := ba h
        obtain ⟨q1, q2, q3, q4, q5, _⟩ := F.exc k xi ec
        have hx := of_decide_eq_true h3
        split at h
        · rename_i ef
          split at h
          · obtain ⟨k1, k2⟩ := ba h
            subst hx
            obtain ⟨g1, g2⟩ := C1.glo h2
            exact ss_congr (ss_rais0 (C.calm h1) C.tk (q2 ef) g1 g2 (E.e F C1 k2) k1) fun env => by simp only [exs, evs] <;> rfl
          · cases h
        · rename_i f0 fs ef
          obtain ⟨k1, k2⟩ := ba h
          have hl := of_decide_eq_true k1
          have ne : xi.fields ≠ [] := by rw [ef]; simp
          have hlen : xi.fields.length = fs.length + 1 := by rw [ef]; rfl
          obtain ⟨l1, l2⟩ := cEs_len k2
          subst hx
          obtain ⟨g1, g2⟩ := C1.glo h2
          exact ss_congr (ss_raisX (C.calm h1) C.tk (q3 ne (C.calm h1)) g1 g2 (E.es F C1 k2) l1 (by simp) fun env ds e => by rw [evs_len K e, hl, ← hlen]) fun env => by simp only [exs] <;> rfl
      · cases h
    · cases h
  | «try» b hs =>
    simp only [cS] at h
    split at h
    · obtain ⟨h1, h⟩ := ba h
      obtain ⟨h2, h3⟩ := ba h
      refine ss_congr (ss_try C.fr.1 C.fr.2 C.nd C.tk (C.cold h1) (fun W' pn xe tk hp => S.ss (F.tr pn xe) (C.tr h1 pn xe tk hp) h2) (S.hs F C h3)) fun env => ?_
      simp only [exs, hdsF_eq]
      try rfl
    · cases h
theorem sndS_all : ∀ n : Nat, SndS n T ca xa K
  | 0 => ⟨fun _ _ h => by simp [cS] at h, fun _ _ h => by simp [cSs] at h, fun _ _ h => by simp [cHs] at h⟩
  | n + 1 =>
    have S := sndS_all n
    ⟨fun F C h => step_s S F C h, fun F C h => step_ss S F C h, fun F C h => step_hs S F C h⟩
end
end PL

set_option linter.all false
set_option Elab.async false
set_option maxRecDepth 100000
set_option maxHeartbeats 4000000
/-! From texts to promises: defs, classes, errors. -/
namespace PL
open PySem PySem.Spec PyProof.Rows L2
/-! ### plain parameters -/
theorem zip_look {n : Str} : ∀ {ps : List Str} {us : List Value}, us.length = ps.length → n ∈ ps → ∃ v, (ps.zip us).lookup n = some v := by
  intro ps
  induction ps with
  | nil => intro us _ h; simp at h
  | cons p ps ih =>
    intro us hl h
    cases us with
    | nil => simp at hl
    | cons u us =>
      rw [List.zip_cons_cons, List.lookup_cons]
      by_cases q : n = p
      · subst q; exact ⟨u, by simp⟩
      · have : (n == p) = false := beq_eq_false_iff_ne.mpr q
        rw [this]
        exact ih (by simpa using hl) (by simpa [q] using h)
theorem fm_congr {α β : Type} {f g : α → Option β} : ∀ {l : List α}, (∀ a ∈ l, f a = g a) → l.filterMap f = l.filterMap g
  | [], _ => rfl
  | a :: l, h => by
    rw [List.filterMap_cons, List.filterMap_cons, h a List.mem_cons_self, fm_congr fun b hb => h b (List.mem_cons_of_mem _ hb)]
theorem zip_filt : ∀ {ps : List Str} {us : List Value}, ps.Nodup → us.length = ps.length → ps.filterMap (fun n => ((ps.zip us).lookup n).map (n, ·)) = ps.zip us := by
  intro ps
  induction ps with
  | nil => intro us _ h; cases us <;> simp at h ⊢
  | cons p ps ih =>
    intro us nd hl
    cases us with
    | nil => simp at hl
    | cons u us =>
      have nd2 := List.nodup_cons.mp nd
      rw [List.zip_cons_cons, List.filterMap_cons]
      have e1 : List.lookup p ((p, u) :: ps.zip us) = some u := by simp [List.lookup_cons]
      rw [e1]
      simp only [Option.map_some]
      congr 1
      refine Eq.trans (fm_congr fun n hn => ?_) (ih (us := us) nd2.2 (by simpa using hl))
      have : (n == p) = false := beq_eq_false_iff_ne.mpr fun z => nd2.1 (z ▸ hn)
      rw [List.lookup_cons, this]
theorem bind_plain {fd : FuncData} {ps : List Str} (h1 : fd.params.posonlyargs = []) (h2 : fd.params.args.map (·.arg) = ps) (h3 : fd.params.vararg = none) (h4 : fd.params.kwonlyargs = []) (h5 : fd.params.kwarg = none) (h6 : fd.defaults = .none) (nd : ps.Nodup) {us : List Value} (hl : us.length = ps.length) :
    bindArgs fd ⟨us, []⟩ = pure (ps.zip us) := by
  unfold bindArgs
  have e1 : seqItems? fd.defaults = pure none := by rw [h6]; rfl
  have e2 : (ps.filter fun n => ((ps.zip us).lookup n).isNone) = [] := by
    rw [List.filter_eq_nil_iff]
    intro n hn
    obtain ⟨v, e⟩ := zip_look hl hn
    rw [e]
    simp
  have e3 := zip_filt (us := us) nd hl
  simp only [h1, h2, h3, h4, h5, e1, List.map_nil, List.nil_append, List.append_nil, List.forIn_nil, pure_bind, Option.getD_none, hl, Option.isNone_none, Bool.and_true, Nat.lt_irrefl, decide_false, Bool.false_eq_true, if_false, List.length_nil, Nat.sub_zero, List.take_length, List.drop_length, e2, List.isEmpty_nil, Bool.not_true, List.zip_nil_right, e3, List.drop_nil, Nat.zero_sub, List.drop_zero, gt_iff_lt]
/-- plain parameters, no defaults -/
def plainB (d : He.DefD) (ps : List Str) : Bool := d.params.posonlyargs.isEmpty && (decide (d.params.args.map (·.arg) = ps) && (d.params.vararg.isNone && (d.params.kwonlyargs.isEmpty && (d.params.kwarg.isNone && (d.dfl.isEmpty && (d.kwd.isEmpty && decide ps.Nodup))))))
abbrev FunP (K : PySem.W.Frag) (d : He.DefD) (fd : FuncData) : Prop := FunD K d.name d.qual d.params d.body d.scope (d.dvs K) (d.kws K) (He.fAd K d.at_) fd
theorem plain_binds {K : PySem.W.Frag} {d : He.DefD} {fd : FuncData} {ps : List Str} (F : FunP K d fd) (h : plainB d ps = true) : (∀ us : List Value, us.length = ps.length → bindArgs fd ⟨us, []⟩ = pure (ps.zip us)) := by
  simp only [plainB, Bool.and_eq_true, decide_eq_true_eq, List.isEmpty_iff, Option.isNone_iff_eq_none] at h
  obtain ⟨h1, h2, h3, h4, h5, h6, h7, h8⟩ := h
  obtain ⟨oc, od, dV, kV, doc, pm, an, cdv, ct, osl, rfl, lk, hcd, hD, hK⟩ := F.ex
  intro us hl
  have hd : dV = .none := by
    rcases hD with ⟨_, e⟩ | ⟨e, _⟩
    · exact e
    · exact absurd (show He.DefD.dvs K d = [] from by unfold He.DefD.dvs; rw [h6]; rfl) e
  exact bind_plain h1 h2 h3 h4 h5 hd h8 hl
/-- the names of a def -/
def scopeB (N ps : List Str) (sc : Scope) : Bool := (match sc.kind with | .function => true | _ => false) && (!sc.isCoroutine && (!sc.isGenerator && (decide N.Nodup && (decide (N.take ps.length = ps) && (ps.all (fun x => locB sc x || celB sc x) && sc.names.all fun y => match y.2 with | .free => false | _ => true)))))
theorem scope_ok {N ps : List Str} {sc : Scope} (h : scopeB N ps sc = true) : FnScope N ps sc := by
  simp only [scopeB, Bool.and_eq_true, decide_eq_true_eq, Bool.not_eq_true', List.all_eq_true, Bool.or_eq_true] at h
  obtain ⟨h1, h2, h3, h4, h5, h6, h7⟩ := h
  refine ⟨?_, h2, h3, h4, h5, fun x hx => ?_, fun y hy e => ?_⟩
  · split at h1
    · assumption
    · cases h1
  · rcases h6 x hx with q | q
    · unfold locB at q
      split at q
      · exact .inl (by assumption)
      · cases q
    · unfold celB at q
      split at q
      · exact .inr (by assumption)
      · cases q
  · have := h7 y hy
    rw [e] at this
    cases this
/-! ### an error's __init__ -/
def asgsB : List Str → List Stmt → Bool
  | [], [] => true
  | f :: fs, st :: r => (match st with
    | .Assign [.Attribute (.Name s _) g _] (.Name y _) _ => decide (s = "self") && (decide (g = f) && (decide (y = f) && asgsB fs r))
    | _ => false)
  | _, _ => false
def initB (fs : List Str) (b : List Stmt) : Bool := match b with
  | .Expr (.Constant (.str _) _ _) _ :: r => asgsB fs r
  | b => asgsB fs b
def selfN : Str := "self"
def xselB (xi : ExI) (d : He.DefD) : Bool := plainB d (selfN :: xi.fields) && (scopeB (selfN :: xi.fields) (selfN :: xi.fields) d.scope && (initB xi.fields d.body && (decide xi.fields.Nodup && (decide (xi.fields.length ≤ 900) && ((selfN :: xi.fields).all fun f => visB d.scope f && (dbgB f && cdB f))))))
section
variable {X : Cx} {C : Addr}
theorem zip_take_succ {f : Str} {v : V} : ∀ {fields : List Str} {ws : List V} {j : Nat}, fields[j]? = some f → ws[j]? = some v → ((fields.zip ws).take (j + 1)).reverse = (f, v) :: ((fields.zip ws).take j).reverse := fun {fields ws j} h1 h2 => by
  have e : (fields.zip ws)[j]? = some (f, v) := by
    rw [List.getElem?_zip_eq_some]
    exact ⟨h1, h2⟩
  rw [List.take_add_one, e]
  simp
theorem init_body (T : OexC X.K C) {fields : List Str} (hno : ∀ f ∈ fields, PySem.W.findIn X.K (.ref C) f = some none) (hN : X.N = selfN :: fields) (hv : ∀ x ∈ X.N, Vis X.env.scope x) (hd : ∀ f ∈ X.N, dbgB f = true ∧ cdB f = true) (hl : fields.length ≤ 900) {a : Addr} {ws : List V} (hw : ws.length = fields.length) :
    ∀ (body : List Stmt) (j : Nat), asgsB (fields.drop j) body = true → j ≤ fields.length → ∃ t, PSs X body t ∧ ∀ (D : Ends) (H : Hp),
      ((j = 0 ∧ fields ≠ [] ∧ H a = some (exo a C none) ∧ ∀ dx, H dx = none → dx ≠ a → D.nx ((V.ref a :: ws).map some) (upd (upd H dx (exd dx (xfv fields ws))) a (exo a C (some dx)))) ∨
        ∃ dx, dx ≠ a ∧ H a = some (exo a C (some dx)) ∧ H dx = some (exd dx ((fields.zip ws).take j).reverse) ∧ D.nx ((V.ref a :: ws).map some) (upd H dx (exd dx (xfv fields ws)))) → t D ((V.ref a :: ws).map some) H := by
  intro body
  induction body with
  | nil =>
    intro j h hj
    have e : fields.drop j = [] := by
      cases q : fields.drop j with
      | nil => rfl
      | cons a b => rw [q] at h; simp [asgsB] at h
    have ej : j = fields.length := by
      have := congrArg List.length e
      rw [List.length_drop, List.length_nil] at this
      omega
    refine ⟨_, pss_nil, fun D H q => ?_⟩
    rcases q with ⟨q1, q2, _⟩ | ⟨dx, hne, ha, hdx, q⟩
    · subst q1
      exact absurd (List.length_eq_zero_iff.mp ej.symm) q2
    · have e2 : ((fields.zip ws).take j).reverse = xfv fields ws := by
        unfold xfv
        rw [List.take_of_length_le (by rw [List.length_zip]; omega)]
      rw [e2] at hdx
      have e3 : upd H dx (exd dx (xfv fields ws)) = H := by
        funext b
        by_cases hb : b = dx
        · rw [hb, upd_same, hdx]
        · rw [upd_ne hb]
      rw [e3] at q
      exact q
  | cons st r ih =>
    intro j h hj
    cases q : fields.drop j with
    | nil => rw [q] at h; simp [asgsB] at h
    | cons f fs =>
      rw [q] at h
      simp only [asgsB] at h
      split at h
      · rename_i s0 p1 g p2 y p3 p4
        obtain ⟨h1, h⟩ := ba h
        obtain ⟨h2, h⟩ := ba h
        obtain ⟨h3, h4⟩ := ba h
        have e1 : s0 = selfN := of_decide_eq_true h1
        have e2 := (of_decide_eq_true h2).symm
        have e3 := (of_decide_eq_true h3).symm
        subst e1
        subst e2
        subst e3
        have hjl : j < fields.length := by
          have := congrArg List.length q
          rw [List.length_drop, List.length_cons] at this
          omega
        have hf : fields[j]? = some f := by
          have : (fields.drop j)[0]? = some f := by rw [q]; rfl
          rw [List.getElem?_drop] at this
          simpa using this
        have hfs : fields.drop (j + 1) = fs := by
          have : (fields.drop j).drop 1 = fs := by rw [q]; rfl
          rw [List.drop_drop] at this
          exact this
        have hmem : f ∈ fields := List.mem_of_getElem? hf
        obtain ⟨v, hv1⟩ : ∃ v, ws[j]? = some v := by
          cases e : ws[j]? with
          | none => rw [List.getElem?_eq_none_iff] at e; omega
          | some v => exact ⟨v, rfl⟩
        have n0 : X.N[0]? = some selfN := by rw [hN]; rfl
        have nj : X.N[j + 1]? = some f := by rw [hN]; simpa using hf
        have m0 : selfN ∈ X.N := by rw [hN]; exact List.mem_cons_self
        have mf : f ∈ X.N := by rw [hN]; exact List.mem_cons_of_mem _ hmem
        obtain ⟨t, ht, k⟩ := ih (j + 1) (by rw [hfs]; exact h4) (by omega)
        refine ⟨_, pss_cons (ps_ost (pe_var (i := 0) n0 (hv _ m0) (dbg_ok (hd _ m0).1) (cd_ok (hd _ m0).2)) (pe_var (i := j + 1) nj (hv _ mf) (dbg_ok (hd _ mf).1) (cd_ok (hd _ mf).2)) (by rfl)) ht, fun D H z => ?_⟩
        have s0 : ((V.ref a :: ws).map some)[0]? = some (some (V.ref a)) := rfl
        have sj : ((V.ref a :: ws).map some)[j + 1]? = some (some v) := by
          simp only [List.map_cons, List.getElem?_cons_succ, List.getElem?_map, hv1, Option.map_some]
        refine ⟨v, sj, .ref a, s0, a, C, rfl, T, hno f hmem, ?_⟩
        rcases z with ⟨z1, z2, z3, z4⟩ | ⟨dx, hne, ha, hdx, z⟩
        · subst z1
          refine .inl ⟨z3, fun dx hn hne => k _ _ (.inr ⟨dx, hne, upd_same, ?_, ?_⟩)⟩
          · rw [upd_ne hne, upd_same, zip_take_succ hf hv1]
            simp
          · have e : upd (upd (upd H dx (exd dx [(f, v)])) a (exo a C (some dx))) dx (exd dx (xfv fields ws)) = upd (upd H dx (exd dx (xfv fields ws))) a (exo a C (some dx)) := by
              funext b
              by_cases hb : b = dx
              · subst hb; rw [upd_same, upd_ne hne, upd_same]
              · rw [upd_ne hb]
                by_cases hb2 : b = a
                · subst hb2; rw [upd_same, upd_same]
                · rw [upd_ne hb2, upd_ne hb2, upd_ne hb, upd_ne hb]
            rw [e]
            exact z4 dx hn hne
        · refine .inr ⟨dx, _, ha, hdx, ?_, k _ _ (.inr ⟨dx, hne, ?_, ?_, ?_⟩)⟩
          · rw [List.length_reverse, List.length_take, List.length_zip]
            omega
          · rw [upd_ne (Ne.symm hne)]; exact ha
          · rw [upd_same, zip_take_succ hf hv1]
          · rw [upd_upd]; exact z
      · cases h
end
/-- its promise is kept -/
theorem init_ok {P : Program} {w : World} {K : PySem.W.Frag} {mg : Str → Option Value} {base : Heap} {C : Addr} {xi : ExI} {d : He.DefD} {fd : FuncData} (F : FunP K d fd) (T : OexC K C) (hno : ∀ f ∈ xi.fields, PySem.W.findIn K (.ref C) f = some none) (hne : xi.fields ≠ []) (h : xselB xi d = true) :
    FnOk P w K mg base (L2.CX P w) 1 (He.fAd K d.at_) fd (selfN :: xi.fields) (spX C xi.fields (selfN :: xi.fields).length) := by
  simp only [xselB, Bool.and_eq_true, decide_eq_true_eq, List.all_eq_true] at h
  obtain ⟨h1, h2, h3, h4, h5, h6⟩ := h
  have S := scope_ok h2
  refine F.ok S spX_len fun cdv A outer s H vs Q E hr hsp => ?_
  obtain ⟨_, a, ws, rfl, hw, ha, hq⟩ := hsp
  have hb := init_body (X := cxOf (L2.CX P w) P w K mg base (selfN :: xi.fields) d.qual d.scope (He.fAd K d.at_) cdv A outer s H E) T hno rfl (fun x hx => visB_ok (h6 x hx).1) (fun x hx => ⟨(h6 x hx).2.1, (h6 x hx).2.2⟩) h5 (a := a) hw
  have est : L2.start (selfN :: xi.fields) (V.ref a :: ws) = (V.ref a :: ws).map some := by
    unfold L2.start
    rw [List.length_cons, List.length_cons, hw, Nat.sub_self]
    simp
  rw [est]
  have fin : ∀ body, asgsB (xi.fields.drop 0) body = true → ∃ t, PSs (cxOf (L2.CX P w) P w K mg base (selfN :: xi.fields) d.qual d.scope (He.fAd K d.at_) cdv A outer s H E) body t ∧ t { nx := fun _ H' => Q .non H', rt := Q } ((V.ref a :: ws).map some) H := fun body hbd => by
    obtain ⟨t, ht, k⟩ := hb body 0 hbd (Nat.zero_le _)
    exact ⟨t, ht, k _ _ (.inl ⟨rfl, hne, ha, fun dx hn hne => hq dx hn hne⟩)⟩
  unfold initB at h3
  split at h3
  · rename_i e
    rw [e]
    obtain ⟨t, ht, k⟩ := fin _ h3
    exact ⟨_, pss_cons ps_doc ht, k⟩
  · exact fin _ h3
end PL

set_option linter.all false
set_option Elab.async false
set_option maxRecDepth 100000
set_option maxHeartbeats 4000000
/-! A checked def keeps what sem says. -/
namespace PL
open PySem PySem.Spec PyProof.Rows L2
def atB (T : Tab) (fi : FnI) (d : He.DefD) : Bool := match fi.at_ with
  | .glo => decide (d.at_ = (fi.name, none)) && (fi.fn.ini.isNone && decide (fi.fn.pm.length = fi.ps.length))
  | .meth c => (match T.cls[c]? with
    | some ci => decide (d.at_ = (ci.name, some fi.name)) && (fi.fn.ini.isNone && (decide (fi.fn.pm.length = fi.ps.length) && (decide (fi.fn.pm.head? = some false) && decide (fi.name ∉ ci.fields))))
    | none => false)
  | .ini c => (match T.cls[c]? with
    | some ci => decide (d.at_ = (ci.name, some ("__init__" : Str))) && (decide (fi.fn.ini = some c) && decide (fi.fn.pm.length + 1 = fi.ps.length))
    | none => false)
def defB (T : Tab) (n : Nat) (fi : FnI) (d : He.DefD) : Bool :=
  plainB d fi.ps && (scopeB fi.N fi.ps d.scope && (decide (fi.fn.ns = fi.N.length) && (atB T fi d && cSs T n ⟨fi.N, d.scope, true, false, false⟩ d.body fi.fn.body)))
section
variable {P : Program} {w : World} {K : PySem.W.Frag} {mg : Str → Option Value} {base : Heap} {T : Tab} {ca xa : Nat → Addr} {C : Ctx}
/-- the frame at the start -/
theorem start_len {N : List Str} {vs : List V} (h : vs.length ≤ N.length) : (L2.start N vs).length = N.length := by
  unfold L2.start
  rw [List.length_append, List.length_map, List.length_replicate]
  omega
theorem start_get {N : List Str} {vs : List V} {i : Nat} {v : V} (h : vs[i]? = some v) : (L2.start N vs)[i]? = some (some v) := by
  have hl := (List.getElem?_eq_some_iff.mp h).1
  unfold L2.start
  rw [List.getElem?_append_left (by simpa using hl), List.getElem?_map, h]
  rfl
theorem startE_len : ∀ {pm : List Bool} {ds : List D}, pm.length = ds.length → (startE pm ds).length = ds.length
  | [], [], _ => rfl
  | b :: bs, d :: ds, h => by
    simp only [startE, List.length_cons]
    rw [startE_len (by simpa using h)]
  | [], _ :: _, h => by simp at h
  | _ :: _, [], h => by simp at h
theorem startE_get {Pr : Par} {hk : Hp} {cx : Hand} {H0 G H : Hp} (hx : cx.hk = H) (s : Same G H) : ∀ {pm : List Bool} {vs : List V} {ds : List D} {i : Nat} {sl : Sl}, RAL Pr G H pm vs ds → (startE pm ds)[i]? = some sl → (∃ v, vs[i]? = some v ∧ ∀ o, o = some (some v) → SlR Pr cx H0 G H o sl) ∧ ∀ o p, ¬ held sl o p
  | _, _, _, i, sl, .nil, e => by simp [startE] at e
  | _, _, _, 0, sl, .look (v := v) (d := d) h r, e => by
    simp only [startE, List.getElem?_cons_zero, Option.some.injEq] at e
    subst e
    cases d with
    | lst xs =>
      refine ⟨⟨v, rfl, fun o eo => ?_⟩, fun o p hh => hh.elim⟩
      subst eo
      rcases h with h | ⟨p, us, es, e1, e2, h1, h2⟩
      · cases h with
        | lst h r2 => exact ⟨_, _, rfl, by rw [hx]; exact SqL.of (s _ _ h), r2⟩
      · cases e2
        subst e1
        exact ⟨p, us, rfl, by rw [hx]; exact h1, h2⟩
    | _ =>
      refine ⟨⟨v, rfl, fun o eo => ?_⟩, fun o p hh => hh.elim⟩
      subst eo
      rcases h with h | ⟨p, us, es, e1, e2, h1, h2⟩
      · exact ⟨v, rfl, h⟩
      · cases e2
  | _, _, _, 0, sl, .stay (v := v) (d := d) h r, e => by
    simp only [startE, List.getElem?_cons_zero, Option.some.injEq] at e
    subst e
    refine ⟨⟨v, rfl, fun o eo => ?_⟩, fun o p hh => hh.elim⟩
    subst eo
    exact ⟨v, rfl, h⟩
  | _, _, _, i + 1, sl, .look h r, e => by
    simp only [startE, List.getElem?_cons_succ] at e
    simpa using startE_get (hk := hk) (H0 := H0) hx s r e
  | _, _, _, i + 1, sl, .stay h r, e => by
    simp only [startE, List.getElem?_cons_succ] at e
    simpa using startE_get (hk := hk) (H0 := H0) hx s r e
theorem rep_no {n i : Nat} {sl : Sl} (h : (List.replicate n Sl.no)[i]? = some sl) : sl = .no := by
  rw [List.getElem?_replicate] at h
  split at h
  · cases h; rfl
  · cases h
/-- a plain def's frame -/
theorem rel_start {Pr : Par} {G H : Hp} {pm : List Bool} {vs : List V} {ds : List D} {N : List Str} (s : Same G H) (r : RAL Pr G H pm vs ds) (hn : pm.length ≤ N.length) : Rel Pr ⟨H, none, none⟩ G H G H (L2.start N vs) (startE pm ds ++ List.replicate (N.length - pm.length) .no) := by
  have hl := r.len
  have e1 := startE_len (pm := pm) (ds := ds) hl.2.symm
  refine ⟨Same.refl _, Same.refl _, Same.refl _, s, fun _ _ => rfl, ?_, fun i sl e => ?_, fun i j sl t p ei ej hs ht => ?_⟩
  · rw [start_len (by omega), List.length_append, e1, List.length_replicate]
    omega
  · by_cases hi : i < (startE pm ds).length
    · rw [List.getElem?_append_left hi] at e
      obtain ⟨⟨v, ev, k⟩, _⟩ := startE_get (hk := H) (cx := ⟨H, none, none⟩) (H0 := H) rfl s r e
      exact k _ (start_get ev)
    · rw [List.getElem?_append_right (by omega)] at e
      rw [rep_no e]
      trivial
  · have no : ∀ {k : Nat} {u : Sl}, (startE pm ds ++ List.replicate (N.length - pm.length) Sl.no)[k]? = some u → ¬ held u (L2.start N vs)[k]? p := fun {k u} ek hh => by
      by_cases hk : k < (startE pm ds).length
      · rw [List.getElem?_append_left hk] at ek
        exact (startE_get (hk := H) (cx := ⟨H, none, none⟩) (H0 := H) rfl s r ek).2 _ _ hh
      · rw [List.getElem?_append_right (by omega)] at ek
        rw [rep_no ek] at hh
        exact hh
    exact absurd hs (no ei)
theorem cok_def {N ps : List Str} {d : He.DefD} {f : Addr} {cdv : Value} {A : Around} {outer : List PySem.Env} {s : Shared} {H : Hp} {E : XK} {cx : Hand} (S : FnScope N ps d.scope) (hx : cx.ex = none) :
    CokS (cxOf (L2.CX P w) P w K mg base N d.qual d.scope f cdv A outer s H E) ⟨N, d.scope, true, false, false⟩ cx (fun cls dd _ H => E cls dd H) where
  N := rfl
  nd := S.nd
  sc := rfl
  kind := S.kind
  calm := fun _ => rfl
  st := fun x h => by
    have h : (locB d.scope x || (!false && celB d.scope x)) = true := h
    simp only [Bool.not_false, Bool.true_and, Bool.or_eq_true] at h
    rcases h with h | h
    · unfold locB at h
      split at h
      · exact ⟨.inl (by assumption), .inl rfl⟩
      · cases h
    · unfold celB at h
      split at h
      · exact ⟨.inr (by assumption), .inl rfl⟩
      · cases h
  tk := takes_of (E₁ := fun e' s'' => L2.CX P w outer H s E e' s'') rfl rfl rfl rfl
  cold := fun _ => hx
  hand := fun a cls dd e => by rw [hx] at e; cases e
  fr := ⟨rfl, rfl⟩
  po := fun _ => passes_of (K := fun e s'' => L2.CX P w outer H s E e s'') (E₁ := fun e' s'' => L2.CX P w outer H s E e' s'') rfl
/-- a global def, a method -/
theorem def_ok {n lv : Nat} {fi : FnI} {d : He.DefD} {fd : FuncData} (F : FunP K d fd) (hB : defB T n fi d = true) (hi : fi.fn.ini = none) (hpl : fi.fn.pm.length = fi.ps.length)
    (hK : ∀ (cdv : Value) (A : Around) (outer : List PySem.Env) (s : Shared) (H : Hp) (E : XK), Room lv (A.deeper (envOfC d.qual d.scope s.heap.objs.size (He.fAd K d.at_) cdv)) → Kf (cxOf (L2.CX P w) P w K mg base fi.N d.qual d.scope (He.fAd K d.at_) cdv A outer s H E) T ca xa C) :
    FnOk P w K mg base (L2.CX P w) (lv + 1) (He.fAd K d.at_) fd fi.ps (spF ⟨K, T, ca, xa⟩ (runFn fi.fn C) fi.fn.pm fi.ps.length) := by
  simp only [defB] at hB
  obtain ⟨h1, h⟩ := ba hB
  obtain ⟨h2, h⟩ := ba h
  obtain ⟨h3, h⟩ := ba h
  obtain ⟨h4, h5⟩ := ba h
  have S := scope_ok h2
  have h3 := of_decide_eq_true h3
  have hps : fi.ps.length ≤ fi.N.length := by
    have := congrArg List.length S.pre
    rw [List.length_take] at this
    omega
  refine F.ok S spF_len fun cdv A outer s H vs Q E hr hsp => ?_
  obtain ⟨_, G, ds, sg, ral, post⟩ := hsp
  have kf := hK cdv A outer s H E hr
  have ok := (sndS_all (T := T) (ca := ca) (xa := xa) (K := C) n).ss (G0 := G) (H0 := H) kf (cok_def (P := P) (w := w) (K := K) (mg := mg) (base := base) (f := He.fAd K d.at_) (cdv := cdv) (A := A) (outer := outer) (s := s) (H := H) (E := E) (cx := ⟨H, none, none⟩) S rfl) h5
  refine ⟨_, ok, G, _, rel_start sg ral (by omega), ?_⟩
  rw [← h3]
  have hl : ds.length = fi.fn.pm.length := ral.len.2
  simp only [runFn, if_pos hl, hi] at post
  cases q : exss C fi.fn.body (startE fi.fn.pm ds ++ List.replicate (fi.fn.ns - fi.fn.pm.length) Sl.no) with
  | nx e => rw [q] at post; exact fun σ' H' G' r => post .non H' G' r.toStep .non
  | ret r => rw [q] at post; exact fun v H' G' st rv => post v H' G' st rv
  | ct e => rw [q] at post; exact False.elim post
  | err k fs e => rw [q] at post; exact fun cls dd σ' H' G' r er => post cls dd H' G' r.toStep er
  | bad => rw [q] at post; exact False.elim post
/-- an __init__'s frame -/
theorem rel_startI {Pr : Par} {G H1 : Hp} {pm : List Bool} {vs : List V} {ds : List D} {N : List Str} {x dx : Addr} {c : Nat} {ci : ClI} (s : Same G H1) (r : RAL Pr G H1 pm vs ds) (hn : pm.length + 1 ≤ N.length) (hx : H1 x = none) (hdx : H1 dx = none) (hne : dx ≠ x) (hc : Pr.T.cls[c]? = some ci) :
    Rel Pr ⟨H1, none, some (c, x)⟩ G H1 G (upd (upd H1 dx (.own x)) x (.ins (Pr.ca c) dx [])) (L2.start N (.ref x :: vs)) (.obj c [] :: startE pm ds ++ List.replicate (N.length - pm.length - 1) .no) := by
  have hl := r.len
  have e1 := startE_len (pm := pm) (ds := ds) hl.2.symm
  have sH : Same H1 (upd (upd H1 dx (.own x)) x (.ins (Pr.ca c) dx [])) := fun a o e => by
    rw [upd_ne (ne_of_none e hx), upd_ne (ne_of_none e hdx)]
    exact e
  have old : ∀ {k : Nat} {u : Sl}, (Sl.obj c [] :: startE pm ds ++ List.replicate (N.length - pm.length - 1) Sl.no)[k + 1]? = some u → (startE pm ds)[k]? = some u ∨ u = .no := fun {k u} ek => by
    rw [List.cons_append, List.getElem?_cons_succ] at ek
    by_cases hk : k < (startE pm ds).length
    · rw [List.getElem?_append_left hk] at ek
      exact .inl ek
    · rw [List.getElem?_append_right (by omega)] at ek
      exact .inr (rep_no ek)
  refine ⟨Same.refl _, sH, Same.refl _, s.trans sH, fun _ _ => rfl, ?_, fun i sl e => ?_, fun i j sl t p ei ej hs ht => ?_⟩
  · rw [start_len (by rw [List.length_cons]; omega), List.length_append, List.length_cons, e1, List.length_replicate]
    omega
  · cases i with
    | zero =>
      have e : some (Sl.obj c []) = some sl := e
      cases e
      exact ⟨x, dx, [], [], ci, start_get rfl, upd_same, s.free hx, hx, hc, ⟨fun j n v _ h => by simp at h, fun m _ => rfl, Nat.zero_le _⟩, .nil, rfl⟩
    | succ k =>
      rcases old e with e | e
      · obtain ⟨⟨v, ev, q⟩, _⟩ := startE_get (hk := H1) (cx := ⟨H1, none, some (c, x)⟩) (H0 := H1) rfl s r e
        have q := q _ (start_get (N := N) (vs := .ref x :: vs) (i := k + 1) (by simpa using ev))
        cases sl with
        | val d => exact q
        | pk xs => exact q
        | no => trivial
        | own xs => exact absurd q.choose_spec.choose_spec.1 (fun z => ((startE_get (hk := H1) (cx := ⟨H1, none, some (c, x)⟩) (H0 := H1) rfl s r e).2 _ q.choose) z)
        | exc k fs => obtain ⟨a, cls, dd, e2, _⟩ := q; cases e2
        | obj c' xs => exact absurd q.choose_spec.choose_spec.choose_spec.choose_spec.choose_spec.1 (fun z => ((startE_get (hk := H1) (cx := ⟨H1, none, some (c, x)⟩) (H0 := H1) rfl s r e).2 _ q.choose) z)
      · subst e; trivial
  · have no : ∀ {k : Nat} {u : Sl}, (Sl.obj c [] :: startE pm ds ++ List.replicate (N.length - pm.length - 1) Sl.no)[k + 1]? = some u → ¬ held u (L2.start N (.ref x :: vs))[k + 1]? p := fun {k u} ek hh => by
      rcases old ek with e | e
      · exact (startE_get (hk := H1) (cx := ⟨H1, none, some (c, x)⟩) (H0 := H1) rfl s r e).2 _ _ hh
      · subst e; exact hh
    cases i with
    | succ k => exact absurd hs (no ei)
    | zero =>
      cases j with
      | zero => rfl
      | succ k => exact absurd ht (no ej)
theorem ini_ok {n lv c : Nat} {fi : FnI} {ci : ClI} {d : He.DefD} {fd : FuncData} (F : FunP K d fd) (hB : defB T n fi d = true) (hi : fi.fn.ini = some c) (hpl : fi.fn.pm.length + 1 = fi.ps.length) (hc : T.cls[c]? = some ci)
    (hK : ∀ (cdv : Value) (A : Around) (outer : List PySem.Env) (s : Shared) (H : Hp) (E : XK), Room lv (A.deeper (envOfC d.qual d.scope s.heap.objs.size (He.fAd K d.at_) cdv)) → Kf (cxOf (L2.CX P w) P w K mg base fi.N d.qual d.scope (He.fAd K d.at_) cdv A outer s H E) T ca xa C) :
    FnOk P w K mg base (L2.CX P w) (lv + 1) (He.fAd K d.at_) fd fi.ps (spI ⟨K, T, ca, xa⟩ c (runFn fi.fn C) fi.fn.pm fi.ps.length) := by
  simp only [defB] at hB
  obtain ⟨h1, h⟩ := ba hB
  obtain ⟨h2, h⟩ := ba h
  obtain ⟨h3, h⟩ := ba h
  obtain ⟨h4, h5⟩ := ba h
  have S := scope_ok h2
  have h3 := of_decide_eq_true h3
  have hps : fi.ps.length ≤ fi.N.length := by
    have := congrArg List.length S.pre
    rw [List.length_take] at this
    omega
  refine F.ok S spI_len fun cdv A outer s H vs Q E hr hsp => ?_
  obtain ⟨_, G, H1, ds, x, dx, vs', sg, ral, hx, hdx, hne, rfl, rfl, post⟩ := hsp
  have kf := hK cdv A outer s (upd (upd H1 dx (.own x)) x (.ins (ca c) dx [])) E hr
  have ok := (sndS_all (T := T) (ca := ca) (xa := xa) (K := C) n).ss (G0 := G) (H0 := H1) kf (cok_def (P := P) (w := w) (K := K) (mg := mg) (base := base) (f := He.fAd K d.at_) (cdv := cdv) (A := A) (outer := outer) (s := s) (H := upd (upd H1 dx (.own x)) x (.ins (ca c) dx [])) (E := E) (cx := ⟨H1, none, some (c, x)⟩) S rfl) h5
  refine ⟨_, ok, G, _, rel_startI (Pr := ⟨K, T, ca, xa⟩) sg ral (by omega) hx hdx hne hc, ?_⟩
  rw [← h3]
  have hl : ds.length = fi.fn.pm.length := ral.len.2
  simp only [runFn, if_pos hl, hi] at post
  cases q : exss C fi.fn.body (.obj c [] :: startE fi.fn.pm ds ++ List.replicate (fi.fn.ns - fi.fn.pm.length - 1) Sl.no) with
  | nx e =>
    rw [q] at post
    intro σ' H' G' r
    dsimp only at post
    split at post
    · rename_i c' xs eh
      have eh : e[0]? = some (.obj c' xs) := by rw [← eh, List.head?_eq_getElem?]
      obtain ⟨x2, dx2, fs, ws, ci', e1, k1, k2, k3, k4, k5, k6, k7⟩ := r.sl 0 _ eh
      cases k7
      rw [show (T.cls[c]? = some ci') from k4] at hc
      obtain rfl := Option.some.inj hc
      have sg2 : Same G' (upd G' x (.ins (ca c) dx2 fs)) := same_upd k2
      refine post (.ref x) H' (upd G' x (.ins (ca c) dx2 fs)) (r.toStep.still k3 k1 k2) ?_ rfl
      exact Rep.ins upd_same k4 k5 (k6.mono sg2)
    · exact False.elim post
  | ret r => rw [q] at post; exact False.elim post
  | ct e => rw [q] at post; exact False.elim post
  | err k fs e => rw [q] at post; exact fun cls dd σ' H' G' r er => post cls dd H' G' r.toStep er
  | bad => rw [q] at post; exact False.elim post
end
end PL

set_option linter.all false
set_option Elab.async false
set_option maxRecDepth 100000
set_option maxHeartbeats 4000000
/-! From the head's facts to a law's answer. -/
namespace PL
open PySem PySem.Spec PyProof.Rows L2
/-- an own error class with an __init__ -/
def oexB (K : PySem.W.Frag) (C : Addr) : Bool := (match K.lookup C with
  | some ⟨.type "type", _, .cls cd, sl⟩ => (match cd.mro, sl.toList with
    | .ref C' :: bm, [_, _, _, _, some (.builtin n), _] => decide (C' = C) && (decide (n = "ValueError.__new__") && (!cd.hasDel && (cd.hasDict && PySem.HandSPX.refsVE bm)))
    | _, _ => false)
  | _ => false) && (decide (PySem.W.findIn K (.ref C) "__setattr__" = some (some (.builtin "object.__setattr__"))) && (decide (PySem.W.subIn K (.ref C) (.type "BaseException") = some true) && (decide (PySem.W.typeIn K (.ref C) = some (.type "type")) && PySem.W.keepIn K (.ref C))))
theorem oexB_ok {K : PySem.W.Frag} {C : Addr} (h : oexB K C = true) : OexC K C := by
  simp only [oexB] at h
  obtain ⟨h1, h⟩ := ba h
  obtain ⟨h2, h⟩ := ba h
  obtain ⟨h3, h⟩ := ba h
  obtain ⟨h4, h5⟩ := ba h
  refine ⟨?_, of_decide_eq_true h2, of_decide_eq_true h3, of_decide_eq_true h4, h5⟩
  split at h1
  · rename_i dd cd sl lk
    split at h1
    · rename_i C' bm k0 k1 k2 k3 n k5 hm hs
      obtain ⟨q1, q⟩ := ba h1
      obtain ⟨q2, q⟩ := ba q
      obtain ⟨q3, q⟩ := ba q
      obtain ⟨q4, q5⟩ := ba q
      have e1 := of_decide_eq_true q1
      have e2 := of_decide_eq_true q2
      subst e1 e2
      obtain ⟨nm, bs, mro, ns, qn, hd, sn, sub, ab, col, del⟩ := cd
      have e3 : del = false := by simpa using q3
      have e4 : hd = true := q4
      dsimp only at hm
      subst hm e3 e4
      have hsl : sl = #[k0, k1, k2, k3, some (.builtin "ValueError.__new__"), k5] := by
        obtain ⟨l⟩ := sl
        simp only at hs
        rw [hs]
      subst hsl
      exact ⟨nm, qn, ns, bs, bm, sn, sub, ab, col, dd, k0, k1, k2, k3, k5, lk, q5⟩
    · cases h1
  · cases h1
/-! ### what is asked of the written part -/
def caF (T : Tab) (K : PySem.W.Frag) (c : Nat) : Addr := match T.cls[c]? with
  | some ci => He.ga K ci.name
  | none => 0
def xaF (T : Tab) (K : PySem.W.Frag) (k : Nat) : Addr := match T.exs[k]? with
  | some xi => He.ga K xi.name
  | none => 0
def fnFa (T : Tab) (fi : FnI) : List He.Fa := match fi.at_ with
  | .glo => [.glo fi.name]
  | .meth c => (match T.cls[c]? with
    | some ci => [.meth ci.name fi.name]
    | none => [])
  | .ini c => (match T.cls[c]? with
    | some ci => [.mkr ci.name]
    | none => [])
def clFa (ci : ClI) : List He.Fa := .glo ci.name :: .cls ci.name :: ci.fields.map fun f => .noat ci.name f
def glFa (p : Str × Sum Int Str) : He.Fa := match p.2 with
  | .inl i => .int p.1 i
  | .inr z => .str p.1 z
def exFa (xi : ExI) : List He.Fa := .glo xi.name :: (if xi.fields.isEmpty then [.exc xi.name] else [.meth xi.name "__init__"]) ++ xi.fields.map fun f => .noat xi.name f
def emFa (T : Tab) (h : Nat) : List He.Fa := (List.range T.exs.length).filterMap fun k => match T.exs[h]?, T.exs[k]? with
  | some xh, some xk => some (.exm xk.name xh.name (PL.exm k h))
  | _, _ => none
def factsOf (T : Tab) : List He.Fa := T.fns.flatMap (fnFa T) ++ (T.cls.flatMap clFa ++ (T.glb.map glFa ++ (freeNames.map .free ++ (T.exs.flatMap exFa ++ (List.range T.exs.length).flatMap (emFa T)))))
def chkK (T : Tab) (K : PySem.W.Frag) : Bool := (factsOf T).all (fun f => f.ok K) && T.exs.all fun xi => (xfB K (He.ga K xi.name) && decide (PySem.W.kitCls K (.ref (He.ga K xi.name)) (.type "ValueError") = some true)) && (xi.fields.isEmpty || oexB K (He.ga K xi.name))
/-- a namespace without some names -/
def nsB (K : PySem.W.Frag) (a : Addr) (xs : List Str) : Bool := match K.lookup a with
  | some o => (match o.data with
    | .dict es _ => es.all (fun e => match e.key with | .str _ _ => true | _ => false) && xs.all fun x => (nsFind es x).isNone
    | _ => false)
  | none => false
theorem nsB_ok {K : PySem.W.Frag} {h : Heap} (KX : K.In h) {a : Addr} {xs : List Str} (c : nsB K a xs = true) : ∃ m, h.Ns a m ∧ ∀ x ∈ xs, m x = none := by
  unfold nsB at c
  split at c
  · rename_i o e
    split at c
    · rename_i es ep hd
      obtain ⟨c1, c2⟩ := ba c
      refine ⟨fun name => nsFind es name, ⟨o, es, ep, KX _ _ e, hd, fun z hz => ?_, fun _ => rfl⟩, fun x hx => ?_⟩
      · have hx := Array.all_eq_true_iff_forall_mem.mp c1 z hz
        cases hk : z.key <;> rw [hk] at hx <;> first | exact ⟨_, _, rfl⟩ | cases hx
      · exact Option.isNone_iff_eq_none.mp (List.all_eq_true.mp c2 x hx)
    · cases c
  · cases c
def mainB (K : PySem.W.Frag) : Bool := (He.Fa.glo "__builtins__").ok K && (match K.lookup (He.ga K "__builtins__") with
  | some ob => (match ob.cls with
    | .type t => decide (t = "module")
    | _ => false) && decide (ob.dict = some builtinsNs)
  | none => false)
theorem mainB_ok {K : PySem.W.Frag} {h : Heap} {mg : Str → Option Value} (KX : K.In h) (G : h.Ns mainGlobals mg) (c : mainB K = true) : ∃ mg bm ob, h.Ns mainGlobals mg ∧ mg "__builtins__" = some (.ref bm) ∧ h.get? bm = some ob ∧ ob.cls = .type "module" ∧ ob.dict = some builtinsNs := by
  unfold mainB at c
  obtain ⟨c1, c2⟩ := ba c
  split at c2
  · rename_i ob e
    obtain ⟨c3, c4⟩ := ba c2
    refine ⟨mg, _, ob, G, He.glo_ok KX G c1, KX _ _ e, ?_, of_decide_eq_true c4⟩
    split at c3
    · rename_i t ht
      rw [ht, of_decide_eq_true c3]
    · cases c3
  · cases c2
def seerB (K : PySem.W.Frag) : Bool := nsB K cStatics ["sys.audit-hooks", "sys.dict"] && (nsB K sysModules ["_pylong"] && mainB K)
/-! ### the Hook -/
abbrev AlP : Type := Bool × List He.FnW
def obsP (T : Tab) (ds : List He.DefD) (K : PySem.W.Frag) : AlP := ((chkK T K && seerB K) && ds.all fun d => d.ok K, ds.map fun d => He.fnW K d.at_)
def valP (ds : List He.DefD) : AlP := (true, ds.map He.DefD.val)
def SaysP (T : Tab) (ds : List He.DefD) (K : PySem.W.Frag) : Prop := obsP T ds K = valP ds
def obsPG (n : Nat) (T : Tab) (ds : List He.DefD) (g : Addr → Option Obj) : AlP := obsP T ds (He.frG g (cStatics :: sysModules :: He.asD g n))
def hookP (n : Nat) (T : Tab) (ds : List He.DefD) : PySem.W.Hook where
  α := AlP
  obs := fun s => obsPG n T ds s.heap.get?
  val := fun _ => valP ds
  says := fun _ h => ∃ K : PySem.W.Frag, K.In h ∧ SaysP T ds K
  of := fun _ _ e => ⟨_, He.frG_in, e⟩
  keeps := fun _ _ _ ⟨K, hK, c⟩ k => ⟨K, PySem.W.Frag.In.keeps hK k, c⟩
theorem obsPG_eq {n : Nat} {T : Tab} {ds : List He.DefD} {g : Addr → Option Obj} {s : Shared} (h : ∀ a, g a = s.heap.get? a) : obsPG n T ds g = (hookP n T ds).obs s := by
  have e : g = s.heap.get? := funext h
  rw [e] <;> rfl
section
variable {T : Tab} {ds : List He.DefD} {K : PySem.W.Frag}
theorem SaysP.chk (c : SaysP T ds K) : chkK T K = true := (ba (ba (show ((chkK T K && seerB K) && ds.all fun d => d.ok K) = true from congrArg (fun z : AlP => z.1) c)).1).1
theorem SaysP.seer (c : SaysP T ds K) : seerB K = true := (ba (ba (show ((chkK T K && seerB K) && ds.all fun d => d.ok K) = true from congrArg (fun z : AlP => z.1) c)).1).2
theorem SaysP.def_ (c : SaysP T ds K) (i : Nat) {d : He.DefD} (h : ds[i]? = some d) : ∃ fd, FunP K d fd := by
  have c2 := (ba (show ((chkK T K && seerB K) && ds.all fun d => d.ok K) = true from congrArg (fun z : AlP => z.1) c)).2
  have e : ds.map (fun d => He.fnW K d.at_) = ds.map He.DefD.val := congrArg (fun z : AlP => z.2) c
  have e2 : (ds.map fun d => He.fnW K d.at_)[i]? = (ds.map He.DefD.val)[i]? := by rw [e]
  rw [List.getElem?_map, List.getElem?_map, h] at e2
  exact He.DefD.funD (Option.some.inj e2) (List.all_eq_true.mp c2 d (List.mem_of_getElem? h))
theorem chk_fact (c : chkK T K = true) {f : He.Fa} (h : f ∈ factsOf T) : f.ok K = true := List.all_eq_true.mp (ba c).1 f h
theorem fa_fn {i : Nat} {fi : FnI} {f : He.Fa} (h : T.fns[i]? = some fi) (hf : f ∈ fnFa T fi) : f ∈ factsOf T := List.mem_append_left _ (List.mem_flatMap.mpr ⟨fi, List.mem_of_getElem? h, hf⟩)
theorem fa_cl {i : Nat} {ci : ClI} {f : He.Fa} (h : T.cls[i]? = some ci) (hf : f ∈ clFa ci) : f ∈ factsOf T := List.mem_append_right _ (List.mem_append_left _ (List.mem_flatMap.mpr ⟨ci, List.mem_of_getElem? h, hf⟩))
theorem fa_gl {i : Nat} {p : Str × Sum Int Str} (h : T.glb[i]? = some p) : glFa p ∈ factsOf T := List.mem_append_right _ (List.mem_append_right _ (List.mem_append_left _ (List.mem_map.mpr ⟨p, List.mem_of_getElem? h, rfl⟩)))
theorem fa_fr {x : Str} (h : x ∈ freeNames) : He.Fa.free x ∈ factsOf T := List.mem_append_right _ (List.mem_append_right _ (List.mem_append_right _ (List.mem_append_left _ (List.mem_map.mpr ⟨x, h, rfl⟩))))
theorem fa_ex {i : Nat} {xi : ExI} {f : He.Fa} (h : T.exs[i]? = some xi) (hf : f ∈ exFa xi) : f ∈ factsOf T := List.mem_append_right _ (List.mem_append_right _ (List.mem_append_right _ (List.mem_append_right _ (List.mem_append_left _ (List.mem_flatMap.mpr ⟨xi, List.mem_of_getElem? h, hf⟩)))))
theorem fa_em {h k : Nat} {xh xk : ExI} (e1 : T.exs[h]? = some xh) (e2 : T.exs[k]? = some xk) : He.Fa.exm xk.name xh.name (PL.exm k h) ∈ factsOf T := by
  refine List.mem_append_right _ (List.mem_append_right _ (List.mem_append_right _ (List.mem_append_right _ (List.mem_append_right _ (List.mem_flatMap.mpr ⟨h, List.mem_range.mpr (List.getElem?_eq_some_iff.mp e1).1, ?_⟩)))))
  refine List.mem_filterMap.mpr ⟨k, List.mem_range.mpr (List.getElem?_eq_some_iff.mp e2).1, ?_⟩
  rw [e1, e2]
end
/-! ### the checked program -/
/-- the table fits the texts -/
def progB (T : Tab) (n : Nat) (ds : List He.DefD) : Bool :=
  decide (T.fns.length ≤ ds.length) && ((List.range T.fns.length).all (fun i => match T.fns[i]?, ds[i]? with
    | some fi, some d => defB T n fi d
    | _, _ => false) && (T.cls.all (fun ci => decide ci.fields.Nodup) && T.exs.all fun xi => xi.fields.isEmpty || (match ds[xi.ini]? with
    | some d => decide (d.at_ = (xi.name, some ("__init__" : Str))) && xselB xi d
    | none => false)))
section
variable {P : Program} {w : World} {K : PySem.W.Frag} {mg : Str → Option Value} {base : Heap} {T : Tab} {ds : List He.DefD} {F n : Nat}
abbrev tblOf (T : Tab) : List Fn := T.fns.map (·.fn)
abbrev PK (T : Tab) (K : PySem.W.Frag) : Par := ⟨K, T, caF T K, xaF T K⟩
/-- the promise of a def, at a depth -/
def prom (T : Tab) (K : PySem.W.Frag) (F k f : Nat) (fi : FnI) : Sp := match fi.at_ with
  | .ini c => spI (PK T K) c (sem (tblOf T) F k f) fi.fn.pm fi.ps.length
  | _ => spF (PK T K) (sem (tblOf T) F k f) fi.fn.pm fi.ps.length
def AllOk (P : Program) (w : World) (K : PySem.W.Frag) (mg : Str → Option Value) (base : Heap) (T : Tab) (ds : List He.DefD) (F k : Nat) : Prop :=
  ∀ (f : Nat) fi d fd, T.fns[f]? = some fi → ds[f]? = some d → FunP K d fd → FnOk P w K mg base (L2.CX P w) (2 * k + 41) (He.fAd K d.at_) fd fi.ps (prom T K F k f fi)
theorem progB_fn (h : progB T n ds = true) {f : Nat} {fi : FnI} (e : T.fns[f]? = some fi) : ∃ d, ds[f]? = some d ∧ defB T n fi d = true := by
  obtain ⟨h1, h⟩ := ba h
  obtain ⟨h2, h⟩ := ba h
  have hl := (List.getElem?_eq_some_iff.mp e).1
  have q := List.all_eq_true.mp h2 f (List.mem_range.mpr hl)
  rw [e] at q
  split at q
  · rename_i d e1 e2
    cases e1
    exact ⟨d, e2, q⟩
  · cases q
theorem ca_at {c : Nat} {ci : ClI} (h : T.cls[c]? = some ci) : caF T K c = He.ga K ci.name := by unfold caF; rw [h]
theorem xa_at {k : Nat} {xi : ExI} (h : T.exs[k]? = some xi) : xaF T K k = He.ga K xi.name := by unfold xaF; rw [h]
theorem kf_of (hB : progB T n ds = true) (c : SaysP T ds K) (KB : K.In base) (GB : base.Ns mainGlobals mg) {k : Nat} (A : AllOk P w K mg base T ds F k) {X : Cx} (x1 : X.prog = P) (x2 : X.w = w) (x3 : X.K = K) (x4 : X.mg = mg) (x5 : X.base = base) (hr : Room (2 * k + 42) X.A) (hw : WdX X) :
    Kf X T (caF T K) (xaF T K) ⟨sem (tblOf T) F k, F⟩ := by
  subst x1 x2 x3 x4 x5
  have ck := c.chk
  have glo : ∀ {x : Str}, He.Fa.glo x ∈ factsOf T → X.mg x = some (.ref (He.ga X.K x)) := fun h => He.glo_ok KB GB (chk_fact ck h)
  obtain ⟨b1, hb⟩ := ba hB
  obtain ⟨b2, hb⟩ := ba hb
  obtain ⟨b3, b4⟩ := ba hb
  have def_at : ∀ {f : Nat} {fi : FnI}, T.fns[f]? = some fi → ∃ d fd, ds[f]? = some d ∧ FunP X.K d fd ∧ defB T n fi d = true ∧ atB T fi d = true ∧ Binds X.K fd fi.ps [] := fun {f fi} e => by
    obtain ⟨d, e1, e2⟩ := progB_fn hB e
    obtain ⟨fd, FD⟩ := c.def_ f e1
    have q := e2
    simp only [defB] at q
    obtain ⟨q1, q⟩ := ba q
    obtain ⟨q2, q⟩ := ba q
    obtain ⟨q3, q⟩ := ba q
    obtain ⟨q4, q5⟩ := ba q
    exact ⟨d, fd, e1, FD, e2, q4, .all (plain_binds FD q1)⟩
  have clsf : ∀ (c : Nat) ci, T.cls[c]? = some ci → Cls X.K (caF T X.K c) ∧ (∀ n ∈ ci.fields, NoAttr X.K (caF T X.K c) n) ∧ ci.fields.Nodup := fun c ci e => by
    rw [ca_at e]
    exact ⟨He.cls_ok (chk_fact ck (fa_cl e (List.mem_cons_of_mem _ List.mem_cons_self))), fun n hn => He.noat_ok (chk_fact ck (fa_cl e (List.mem_cons_of_mem _ (List.mem_cons_of_mem _ (List.mem_map.mpr ⟨n, hn, rfl⟩))))), of_decide_eq_true (List.all_eq_true.mp b3 ci (List.mem_of_getElem? e))⟩
  refine ⟨hw, by have := hr.un; omega, fun _ f fi e ha => ?_, fun _ f fi cc e ha => ?_, fun _ f fi cc ci e ha ec => ?_, clsf, fun j nm v e => ?_, fun nm hn => He.free_ok KB GB (chk_fact ck (fa_fr hn)), fun k xi e => ?_, fun h xh e1 k xk e2 => ?_⟩
  · obtain ⟨d, fd, e1, FD, e2, e3, bd⟩ := def_at e
    simp only [atB, ha] at e3
    obtain ⟨k1, k2⟩ := ba e3
    obtain ⟨k2, k3⟩ := ba k2
    have at1 := of_decide_eq_true k1
    have fad : He.fAd X.K d.at_ = He.ga X.K fi.name := by rw [at1]; rfl
    have ok := A f fi d fd e e1 FD
    have pe : prom T X.K F k f fi = spF (PK T X.K) (sem (tblOf T) F k f) fi.fn.pm fi.ps.length := by unfold prom; rw [ha]
    rw [pe] at ok
    refine ⟨2 * k + 41, _, fd, ok, hr.mono (by omega), ?_, FD.kp, bd, of_decide_eq_true k3⟩
    rw [fad]
    exact glo (fa_fn e (by unfold fnFa; rw [ha]; exact List.mem_cons_self))
  · obtain ⟨d, fd, e1, FD, e2, e3, bd⟩ := def_at e
    simp only [atB, ha] at e3
    split at e3
    · rename_i ci ec
      obtain ⟨k1, k2⟩ := ba e3
      obtain ⟨k2, k3⟩ := ba k2
      obtain ⟨k3, k4⟩ := ba k3
      obtain ⟨k4, k5⟩ := ba k4
      have at1 := of_decide_eq_true k1
      have fad : He.fAd X.K d.at_ = He.ma X.K (He.ga X.K ci.name) fi.name := by rw [at1]; rfl
      have ok := A f fi d fd e e1 FD
      have pe : prom T X.K F k f fi = spF (PK T X.K) (sem (tblOf T) F k f) fi.fn.pm fi.ps.length := by unfold prom; rw [ha]
      rw [pe] at ok
      obtain ⟨pm, epm⟩ : ∃ pm, fi.fn.pm = false :: pm := by
        have := of_decide_eq_true k4
        cases q : fi.fn.pm with
        | nil => rw [q] at this; cases this
        | cons b r =>
          rw [q] at this
          have : some b = some false := this
          cases this
          exact ⟨r, rfl⟩
      have hl := of_decide_eq_true k3
      rw [epm] at ok hl
      refine ⟨pm, ci, 2 * k + 41, _, fd, epm, ec, of_decide_eq_true k5, (clsf cc ci ec).1, ?_, ok, hr.mono (by omega), bd, by simpa using hl⟩
      rw [fad, ca_at ec]
      exact He.meth_ok (chk_fact ck (fa_fn e (by unfold fnFa; rw [ha]; dsimp only; rw [ec]; exact List.mem_cons_self)))
    · cases e3
  · obtain ⟨d, fd, e1, FD, e2, e3, bd⟩ := def_at e
    simp only [atB, ha, ec] at e3
    obtain ⟨k1, k2⟩ := ba e3
    obtain ⟨k2, k3⟩ := ba k2
    have at1 := of_decide_eq_true k1
    have fad : He.fAd X.K d.at_ = He.ma X.K (He.ga X.K ci.name) "__init__" := by rw [at1]; rfl
    have ok := A f fi d fd e e1 FD
    have pe : prom T X.K F k f fi = spI (PK T X.K) cc (sem (tblOf T) F k f) fi.fn.pm fi.ps.length := by unfold prom; rw [ha]
    rw [pe] at ok
    refine ⟨2 * k + 41, _, fd, ?_, ?_, ok, hr, bd, of_decide_eq_true k3⟩
    · rw [fad, ca_at ec]
      exact He.mkr_ok (chk_fact ck (fa_fn e (by unfold fnFa; rw [ha]; dsimp only; rw [ec]; exact List.mem_cons_self)))
    · rw [ca_at ec]
      exact glo (fa_cl ec List.mem_cons_self)
  · have q := chk_fact ck (fa_gl e)
    cases v with
    | inl i => exact He.int_ok KB GB q
    | inr z => exact He.str_ok KB GB q
  · have xe := List.all_eq_true.mp (ba ck).2 xi (List.mem_of_getElem? e)
    obtain ⟨xe1, xe2⟩ := ba xe
    obtain ⟨xe1, xe3⟩ := ba xe1
    have g := glo (fa_ex e (List.mem_append_left _ List.mem_cons_self))
    have noat : ∀ f ∈ xi.fields, PySem.W.findIn X.K (.ref (He.ga X.K xi.name)) f = some none := fun f hf => He.noat_ok (chk_fact ck (fa_ex e (List.mem_append_right _ (List.mem_map.mpr ⟨f, hf, rfl⟩))))
    rw [xa_at e]
    refine ⟨g, fun ef => ?_, fun ef _ => ?_, xfB_ok xe1, noat, of_decide_eq_true xe3⟩
    · have q := He.exc_ok (chk_fact ck (fa_ex e (List.mem_append_left _ (List.mem_cons_of_mem _ (by rw [ef]; exact List.mem_cons_self)))))
      exact ⟨⟨xi, e, ef⟩, by rw [xa_at e]; exact q.1, by rw [xa_at e]; exact g, by rw [xa_at e]; exact q.2.1, by rw [xa_at e]; exact raises_own q.2.2.1 q.2.2.2⟩
    · have ne : xi.fields.isEmpty = false := by simpa using ef
      rw [ne, Bool.false_or] at xe2
      have ox := oexB_ok xe2
      have xs := List.all_eq_true.mp b4 xi (List.mem_of_getElem? e)
      rw [ne, Bool.false_or] at xs
      split at xs
      · rename_i d ed
        obtain ⟨s1, s2⟩ := ba xs
        have at1 := of_decide_eq_true s1
        obtain ⟨fd, FD⟩ := c.def_ _ ed
        have fad : He.fAd X.K d.at_ = He.ma X.K (He.ga X.K xi.name) "__init__" := by rw [at1]; rfl
        have ok := init_ok (P := X.prog) (w := X.w) (mg := X.mg) (base := X.base) FD ox noat ef s2
        have sl := s2
        simp only [xselB, Bool.and_eq_true, decide_eq_true_eq] at sl
        obtain ⟨t1, t2, t3, t4, t5, t6⟩ := sl
        have mt := He.meth_ok (chk_fact ck (fa_ex e (List.mem_append_left _ (List.mem_cons_of_mem _ (by rw [ne]; exact List.mem_cons_self)))))
        rw [← fad] at mt
        refine ⟨xi, 1, He.fAd X.K d.at_, fd, selfN :: xi.fields, e, t4, rfl, t5, by rw [xa_at e]; exact ox, by rw [xa_at e]; exact mt.at_, beq_iff_eq.mp mt.fn, by rw [xa_at e]; exact ok, hr.mono (by omega), .all (plain_binds FD t1), by rw [xa_at e]; exact g, by simp⟩
      · cases xs
  · have q := He.exm_ok (chk_fact ck (fa_em e1 e2))
    rw [xa_at e1, xa_at e2]
    exact q
theorem sem_succ {f : Nat} {fi : FnI} (e : T.fns[f]? = some fi) (k : Nat) : sem (tblOf T) F (k + 1) f = runFn fi.fn ⟨sem (tblOf T) F k, F⟩ := by
  funext ds
  have : (tblOf T)[f]? = some fi.fn := by rw [List.getElem?_map, e]; rfl
  simp only [sem, this]
/-- every def keeps its promise, at every depth -/
theorem all_ok (hB : progB T n ds = true) (c : SaysP T ds K) (KB : K.In base) (GB : base.Ns mainGlobals mg) (ht : P.given.tree = none) : ∀ k : Nat, AllOk P w K mg base T ds F k
  | 0 => fun f fi d fd e ed FD => by
    refine ⟨?_, fun A outer s H args us vs Q E hr he hb hv hs => ?_⟩
    · unfold prom
      cases fi.at_ with
      | ini cc => exact spI_len
      | glo => exact spF_len
      | meth cc => exact spF_len
    · exfalso
      unfold prom at hs
      cases q : fi.at_ with
      | ini cc => rw [q] at hs; obtain ⟨_, _, _, _, _, _, _, _, _, _, _, _, _, _, h⟩ := hs; exact h
      | glo => rw [q] at hs; obtain ⟨_, _, _, _, _, h⟩ := hs; exact h
      | meth cc => rw [q] at hs; obtain ⟨_, _, _, _, _, h⟩ := hs; exact h
  | k + 1 => fun f fi d fd e ed FD => by
    have A := all_ok hB c KB GB ht k
    obtain ⟨d', ed', dB⟩ := progB_fn hB e
    rw [ed] at ed'
    cases ed'
    have q := dB
    simp only [defB] at q
    obtain ⟨q1, q⟩ := ba q
    obtain ⟨q2, q⟩ := ba q
    obtain ⟨q3, q⟩ := ba q
    obtain ⟨q4, q5⟩ := ba q
    have hK : ∀ (cdv : Value) (A' : Around) (outer : List PySem.Env) (s : Shared) (H : Hp) (E : XK), Room (2 * k + 42) (A'.deeper (envOfC d.qual d.scope s.heap.objs.size (He.fAd K d.at_) cdv)) → Kf (cxOf (L2.CX P w) P w K mg base fi.N d.qual d.scope (He.fAd K d.at_) cdv A' outer s H E) T (caF T K) (xaF T K) ⟨sem (tblOf T) F k, F⟩ := fun cdv A' outer s H E hr => kf_of hB c KB GB A rfl rfl rfl rfl rfl hr (by
      have S := scope_ok q2
      obtain ⟨s1, s2⟩ := ba c.seer
      obtain ⟨s2, s3⟩ := ba s2
      obtain ⟨mc, n1, n2⟩ := nsB_ok KB s1
      obtain ⟨mm, n3, n4⟩ := nsB_ok KB s2
      exact ⟨⟨mc, n1, n2 _ (by simp), n2 _ (by simp)⟩, ⟨mm, n3, n4 _ (by simp)⟩, mainB_ok KB GB s3, ht, ⟨_, outer, rfl, S.gen, S.co, rfl, rfl⟩, by have := hr.dp; show (A'.deeper _).depth + 100 < recursionLimit; omega⟩)
    unfold prom
    unfold atB at q4
    cases ha : fi.at_ with
    | glo =>
      rw [ha] at q4
      obtain ⟨k1, k2⟩ := ba q4
      obtain ⟨k2, k3⟩ := ba k2
      dsimp only
      rw [sem_succ e]
      exact def_ok (ca := caF T K) (xa := xaF T K) FD dB (by simpa using k2) (of_decide_eq_true k3) hK
    | meth cc =>
      rw [ha] at q4
      dsimp only at q4
      split at q4
      · obtain ⟨k1, k2⟩ := ba q4
        obtain ⟨k2, k3⟩ := ba k2
        obtain ⟨k3, k4⟩ := ba k3
        dsimp only
        rw [sem_succ e]
        exact def_ok (ca := caF T K) (xa := xaF T K) FD dB (by simpa using k2) (of_decide_eq_true k3) hK
      · cases q4
    | ini cc =>
      rw [ha] at q4
      dsimp only at q4
      split at q4
      · rename_i ci ec
        obtain ⟨k1, k2⟩ := ba q4
        obtain ⟨k2, k3⟩ := ba k2
        dsimp only
        rw [sem_succ e]
        exact ini_ok (ca := caF T K) (xa := xaF T K) FD dB (of_decide_eq_true k2) (of_decide_eq_true k3) ec hK
      · cases q4
/-- the law's answer -/
theorem law_sp {lv f : Nat} {fi : FnI} (hg : fi.at_ = .glo) (hpm : fi.fn.pm = [true]) (hps : fi.ps.length = 1) {ns : List Int} (hs : sem (tblOf T) F lv f [.lst (ns.map D.int)] = .ok (.val (.bl true))) {H : Hp} {a : Addr} (hS : SqL K H a (ns.map V.int)) :
    prom T K F lv f fi [.ref a] H (fun v _ => v = .bl true) fun _ _ _ => False := by
  unfold prom
  rw [hg]
  dsimp only
  rw [hpm, hps]
  refine ⟨rfl, fun _ => none, [.lst (ns.map D.int)], fun _ _ e => (nomatch e), .look (.inr ⟨a, ns.map V.int, ns.map D.int, rfl, rfl, hS, Reps.ints ns⟩) .nil, ?_⟩
  rw [hs]
  intro x H' G' st r
  cases (show Rep _ G' x (.bl true) from r) with
  | bl => rfl
end
/-- the end of a law -/
theorem walk_ofP {l : PySem.W.OpenLaw} {q : Program} {loose : List Str} {XP : (Str → Option Value) → Heap → Prop} {m n lv f F : Nat} {T : Tab} {ds : List He.DefD} {d : DefRec} {dl : He.DefD} {fi : FnI} {x : Str}
    (hn : l.most = some n) (hn2 : n ≤ sizeLine) (hdf : d.params.defaults = []) (hr : Room (2 * lv + 41) callerA) (hB : progB T m ds = true) (hf : T.fns[f]? = some fi) (hd : ds[f]? = some dl) (hg : fi.at_ = .glo) (hpm : fi.fn.pm = [true]) (hps : fi.ps = [x]) (hnm : fi.name = d.name) (htr : l.prog.given.tree = none)
    (law : ∀ ns : List Int, ns.length ≤ n → (∀ z ∈ ns, Builtin.Int.intBits z ≤ 1048576) → sem (tblOf T) F lv f [.lst (ns.map D.int)] = .ok (.val (.bl true))) :
    PySem.W.WalkO q loose XP (fun _ h => ∃ K : PySem.W.Frag, K.In h ∧ SaysP T ds K) l.row.toRowW d [] (fun f vs => PySem.call f vs) := by
  refine Att.attach_callB hn hdf fun w s₀ s₁ mg mb fa o pm cd doc a vs ns G Y ho hd' hcd hmg hobj hints hlen hbits hgs => ?_
  obtain ⟨K, KX, c⟩ := Y
  obtain ⟨d', ed', dB⟩ := progB_fn hB hf
  rw [hd] at ed'
  cases ed'
  obtain ⟨fd, FD⟩ := c.def_ f hd
  have q := dB
  simp only [defB] at q
  obtain ⟨q1, q⟩ := ba q
  obtain ⟨q2, q⟩ := ba q
  obtain ⟨q3, q⟩ := ba q
  obtain ⟨q4, q5⟩ := ba q
  unfold atB at q4
  rw [hg] at q4
  have at1 := of_decide_eq_true (ba q4).1
  have e1 := He.glo_ok KX G.T.g (chk_fact c.chk (fa_fn hf (by unfold fnFa; rw [hg]; exact List.mem_cons_self)))
  rw [hnm] at e1
  have ef : fa = He.fAd K dl.at_ := by
    have := hmg.symm.trans e1
    cases this
    rw [at1, ← hnm]
    rfl
  subst ef
  have bd := plain_binds FD q1
  rw [hps] at bd
  refine law_call (fd := fd) (sp := prom T K F lv f fi) (x := x) (CX := L2.CX l.prog w) KX G.T.g G.T.b G.T.builtins G.T.nolimit hgs hobj hints (Nat.le_trans hlen hn2) hr (fun base KB GB => ?_) (fun s u => .of_eq (bd [u] rfl)) (fun H hO hS => law_sp hg hpm (by rw [hps]; rfl) (law ns hlen hbits) hS) fun H e s' h => ?_
  · have := all_ok (P := l.prog) (w := w) (F := F) hB c KB GB htr lv f fi dl fd hf hd FD
    rw [hps] at this
    exact this
  · obtain ⟨_, _, _, _, _, _, _, _, _, _, _, _, h⟩ := h
    exact h
end PL

set_option linter.all false
set_option Elab.async false
set_option maxRecDepth 100000
set_option maxHeartbeats 1000000
/-! What the laws' plain parts share: cells, rows. -/
namespace PL
open PySem (Str)
theorem Res.bind_eq_ok {α β : Type} {r : Res α} {f : α → Res β} {b : β} (a : α) (h1 : r = .ok a) (h2 : f a = .ok b) : r.bind f = .ok b := by rw [h1]; exact h2
/-- _law_cell -/
def cellFn : Fn := ⟨[true, true], 2, none, [.ite [] (.cmp .lt (.s 1) (.e (.b1 .len (.s 0)))) [.ret [] (.ix (.s 0) (.s 1))] [], .ret [] (.int 0)]⟩
theorem ixNat_nn {n : Nat} {i : Int} (h : 0 ≤ i) (h2 : i < n) : ixNat n i = some i.toNat := by
  unfold ixNat
  rw [if_pos h, if_pos h2]
theorem cell_ok (c : Ctx) (ns : List Int) (k : Int) (hk : 0 ≤ k) : runFn cellFn c [.lst (ns.map .int), .int k] = .ok (.val (.int (ns.getD k.toNat 0))) := by
  have e1 : (ns.map D.int).length = ns.length := List.length_map ..
  by_cases h : k < (ns.length : Int)
  · have h3 : k.toNat < ns.length := by omega
    simp [runFn, cellFn, startE, exss, exs, frz, tv, po, peek, ev, b1, len, cmp, h, index, ixNat_nn hk, h3]
  · have h3 : ¬ k.toNat < ns.length := by omega
    simp [runFn, cellFn, startE, exss, exs, frz, tv, po, peek, ev, b1, len, cmp, h, h3]
/-! ### operators, one by one -/
theorem bin_add (a b : Int) : bin .add (.int a) (.int b) = .ok (.val (.int (a + b))) := rfl
theorem bin_sub (a b : Int) : bin .sub (.int a) (.int b) = .ok (.val (.int (a - b))) := rfl
theorem bin_mod (a b : Int) (h : b ≠ 0) : bin .mod (.int a) (.int b) = .ok (.val (.int (a.fmod b))) := if_neg h
theorem bin_mul (a b : Int) (h : mulOk a b = true) : bin .mul (.int a) (.int b) = .ok (.val (.int (a * b))) := if_pos h
theorem bin_div (a b : Int) (h : divOk b = true) : bin .fdiv (.int a) (.int b) = .ok (.val (.int (a.fdiv b))) := if_pos h
theorem bin_pow (a b : Int) (h : powOk a b = true) : bin .pow (.int a) (.int b) = .ok (.val (.int (a ^ b.toNat))) := if_pos h
theorem mul_r {a b : Int} (h : -18446744073709551616 < b) (h2 : b < 18446744073709551616) : mulOk a b = true := by
  unfold mulOk big
  simp [h, h2]
theorem mul_l {a b : Int} (h : -18446744073709551616 < a) (h2 : a < 18446744073709551616) : mulOk a b = true := by
  unfold mulOk big
  simp [h, h2]
theorem div_ne {b : Int} (h : b ≠ 0) : divOk b = true := by
  unfold divOk
  exact decide_eq_true h
theorem div_s {b : Int} (h : 0 < b) (h2 : b < 18446744073709551616) : divOk b = true := div_ne (by omega)
theorem divM : divOk 1000000 = true := div_s (by omega) (by omega)
theorem mul_b {a b : Int} (h : a.natAbs.log2 + b.natAbs.log2 < 134000000) : mulOk a b = true := by
  unfold mulOk
  simp [h]
theorem ten18 : powOk 10 18 = true := by
  unfold powOk
  simp only [Bool.and_eq_true, decide_eq_true_eq]
  exact ⟨by omega, by omega, by omega⟩
theorem cmp_lt (a b : Int) : cmp .lt (.int a) (.int b) = .ok (decide (a < b)) := rfl
theorem cmp_le (a b : Int) : cmp .le (.int a) (.int b) = .ok (decide (a ≤ b)) := rfl
theorem cmp_gt (a b : Int) : cmp .gt (.int a) (.int b) = .ok (decide (b < a)) := rfl
theorem cmp_ge (a b : Int) : cmp .ge (.int a) (.int b) = .ok (decide (b ≤ a)) := rfl
theorem cmp_eq (a b : Int) : cmp .eq (.int a) (.int b) = .ok (a == b) := rfl
theorem cmp_ne (a b : Int) : cmp .ne (.int a) (.int b) = .ok (!(a == b)) := rfl
/-- _law_row -/
def rowA : List S := [.app [] 2 (.bin .mod (.e (.b1 .int (.s 0))) (.e (.int 1000000))), .asg [] 0 (.bin .fdiv (.s 0) (.e (.int 1000000)))]
def rowB1 : S := .asg [] 4 (.bin .mod (.e (.b1 .int (.e (.bin .add (.e (.bin .add (.e (.bin .mul (.s 0) (.e (.int 48271)))) (.e (.bin .mul (.s 3) (.e (.int 69621)))))) (.e (.int 4177)))))) (.e (.int 2147483647)))
def rowB2g (a b d m : Int) : S := .app [] 2 (.bin .mod (.e (.b1 .int (.e (.bin .add (.e (.bin .add (.e (.bin .mul (.s 4) (.e (.int a)))) (.e (.bin .mul (.e (.bin .mul (.s 3) (.s 3))) (.e (.int b)))))) (.e (.int d)))))) (.e (.int m)))
def rowB2 : S := rowB2g 16807 7919 271 2147483629
def rowB : List S := [rowB1, rowB2]
def rowFn : Fn := ⟨[false, false], 5, none, [.asg [] 2 (.lst []), .ite [] (.cmp .ge (.s 0) (.e (.bin .pow (.e (.int 10)) (.e (.int 18))))) [.forl [] (.n 3) (.r1 (.v 1)) rowA, .reto 2] [], .forl [] (.n 3) (.r1 (.v 1)) rowB, .reto 2]⟩
theorem b1_int (i : Int) : b1 .int (.int i) = .ok (.val (.int i)) := rfl
theorem rowA_step (c : Ctx) (cell many k : Int) (R : List Int) (s4 : Sl) (h : R.length < SL) :
    exss c rowA [.val (.int cell), .val (.int many), .own (R.map .int), .val (.int k), s4] = .nx [.val (.int (cell.fdiv 1000000)), .val (.int many), .own ((R ++ [cell.fmod 1000000]).map .int), .val (.int k), s4] := by
  have hl : (R.map D.int).length < SL := by rw [List.length_map]; exact h
  unfold rowA
  simp only [exss, exs, frz, List.foldl_nil, ev, po, pt, peek, peekT, List.getElem?_cons_zero, List.getElem?_cons_succ, Res.bind_ok, Vl.d_val, b1_int, bin_mod _ 1000000 (by omega), Res.to_ok, hl, if_true, List.set_cons_zero, List.set_cons_succ, Out.seq_nx, bin_div _ 1000000 divM, Vl.sl_val, List.map_append, List.map_cons, List.map_nil]
theorem rowB1_step (c : Ctx) (cell many k : Int) (s2 s4 : Sl) :
    exs c rowB1 [.val (.int cell), .val (.int many), s2, .val (.int k), s4] = .nx [.val (.int cell), .val (.int many), s2, .val (.int k), .val (.int ((cell * 48271 + k * 69621 + 4177).fmod 2147483647))] := by
  unfold rowB1
  simp only [exs, frz, List.foldl_nil, ev, po, pt, peek, peekT, List.getElem?_cons_zero, List.getElem?_cons_succ, Res.bind_ok, Vl.d_val, b1_int, bin_add, bin_mul cell 48271 (mul_r (by omega) (by omega)), bin_mul k 69621 (mul_r (by omega) (by omega)), bin_mod _ 2147483647 (by omega), Res.to_ok, Vl.sl_val, List.set_cons_zero, List.set_cons_succ]
theorem rowB2_step (c : Ctx) (cell many k a b d m : Int) (R : List Int) (x : Int) (h : R.length < SL) (h1 : ∀ z, mulOk z a = true) (h2 : ∀ z, mulOk z b = true) (h3 : mulOk k k = true) (h4 : m ≠ 0) :
    exs c (rowB2g a b d m) [.val (.int cell), .val (.int many), .own (R.map .int), .val (.int k), .val (.int x)] = .nx [.val (.int cell), .val (.int many), .own ((R ++ [(x * a + k * k * b + d).fmod m]).map .int), .val (.int k), .val (.int x)] := by
  have hl : (R.map D.int).length < SL := by rw [List.length_map]; exact h
  unfold rowB2g
  simp only [exs, frz, List.foldl_nil, ev, po, pt, peek, peekT, List.getElem?_cons_zero, List.getElem?_cons_succ, Res.bind_ok, Vl.d_val, b1_int, bin_add, bin_mul x a (h1 x), bin_mul k k h3, bin_mul _ b (h2 _), bin_mod _ m h4, Res.to_ok, Vl.sl_val, List.set_cons_zero, List.set_cons_succ, hl, if_true, List.map_append, List.map_cons, List.map_nil]
theorem rowB_step (c : Ctx) (cell many : Int) (k : Nat) (R : List Int) (s4 : Sl) (h : R.length < SL) (hk : k < 1000) :
    ∃ x y : Int, 0 ≤ y ∧ exss c rowB [.val (.int cell), .val (.int many), .own (R.map .int), .val (.int k), s4] = .nx [.val (.int cell), .val (.int many), .own ((R ++ [y]).map .int), .val (.int k), .val (.int x)] := by
  have e2 := fun x => rowB2_step c cell many k 16807 7919 271 2147483629 R x h (fun z => mul_r (by omega) (by omega)) (fun z => mul_r (by omega) (by omega)) (mul_r (by omega) (by omega)) (by omega)
  refine ⟨(cell * 48271 + k * 69621 + 4177).fmod 2147483647, (((cell * 48271 + k * 69621 + 4177).fmod 2147483647) * 16807 + (k : Int) * k * 7919 + 271).fmod 2147483629, Int.fmod_nonneg_of_pos _ (by omega), ?_⟩
  unfold rowB
  simp only [exss, rowB1_step, Out.seq_nx]
  unfold rowB2
  rw [e2]
  rfl
theorem rowA_loop (c : Ctx) (many : Int) (s4 : Sl) : ∀ (js : List Int) (cell : Int) (R : List Int) (s3 : Sl), R.length + js.length ≤ SL →
    ∃ (cell' : Int) (Q : List Int) (s3' : Sl), Q.length = js.length ∧ (∀ x ∈ Q, 0 ≤ x) ∧ forLoop (.n 3) (exss c rowA) (js.map .int) [.val (.int cell), .val (.int many), .own (R.map .int), s3, s4] = .nx [.val (.int cell'), .val (.int many), .own ((R ++ Q).map .int), s3', s4]
  | [], cell, R, s3, _ => ⟨cell, [], s3, rfl, fun x h => by simp at h, by simp [forLoop]⟩
  | j :: js, cell, R, s3, h => by
    rw [List.length_cons] at h
    obtain ⟨cell', Q, s3', h1, h2, h3⟩ := rowA_loop c many s4 js (cell.fdiv 1000000) (R ++ [cell.fmod 1000000]) (.val (.int j)) (by rw [List.length_append, List.length_singleton]; omega)
    refine ⟨cell', cell.fmod 1000000 :: Q, s3', by simp [h1], fun x hx => ?_, ?_⟩
    · rcases List.mem_cons.mp hx with e | e
      · subst e; exact Int.fmod_nonneg_of_pos _ (by decide)
      · exact h2 x e
    · have e : setT (.n 3) (D.int j) [.val (.int cell), .val (.int many), .own (R.map .int), s3, s4] = some [.val (.int cell), .val (.int many), .own (R.map .int), .val (.int j), s4] := rfl
      rw [List.map_cons]
      simp only [forLoop, e, rowA_step c cell many j R s4 (by omega)]
      rw [h3]
      simp
theorem rowB_loop (c : Ctx) (cell many : Int) : ∀ (js : List Nat) (R : List Int) (s3 s4 : Sl), R.length + js.length ≤ SL → (∀ j ∈ js, j < 1000) →
    ∃ (Q : List Int) (s3' s4' : Sl), Q.length = js.length ∧ (∀ x ∈ Q, 0 ≤ x) ∧ forLoop (.n 3) (exss c rowB) (js.map fun j => .int (j : Nat)) [.val (.int cell), .val (.int many), .own (R.map .int), s3, s4] = .nx [.val (.int cell), .val (.int many), .own ((R ++ Q).map .int), s3', s4']
  | [], R, s3, s4, _, _ => ⟨[], s3, s4, rfl, fun x h => by simp at h, by simp [forLoop]⟩
  | j :: js, R, s3, s4, h, hj => by
    rw [List.length_cons] at h
    obtain ⟨x, y, hy, st⟩ := rowB_step c cell many j R s4 (by omega) (hj j List.mem_cons_self)
    obtain ⟨Q, s3', s4', h1, h2, h3⟩ := rowB_loop c cell many js (R ++ [y]) (.val (.int j)) (.val (.int x)) (by rw [List.length_append, List.length_singleton]; omega) fun i hi => hj i (List.mem_cons_of_mem _ hi)
    refine ⟨y :: Q, s3', s4', by simp [h1], fun z hz => ?_, ?_⟩
    · rcases List.mem_cons.mp hz with e | e
      · subst e; exact hy
      · exact h2 z e
    · have e : setT (.n 3) (D.int j) [.val (.int cell), .val (.int many), .own (R.map .int), s3, s4] = some [.val (.int cell), .val (.int many), .own (R.map .int), .val (.int j), s4] := rfl
      rw [List.map_cons]
      simp only [forLoop, e, st]
      rw [h3]
      simp
theorem rangeD_nat (m : Nat) : rangeD 0 m = (List.range m).map fun j => D.int (j : Nat) := by
  unfold rangeD
  simp
theorem rangeD_int (m : Nat) : rangeD 0 m = ((List.range m).map fun j => ((j : Nat) : Int)).map D.int := by
  rw [rangeD_nat]
  simp
theorem run_ret {f : Fn} {c : Ctx} {ds : List D} {v : Vl} (hi : f.ini = none) (hl : ds.length = f.pm.length) (h : exss c f.body (startE f.pm ds ++ List.replicate (f.ns - f.pm.length) .no) = .ret v) : runFn f c ds = .ok v := by
  unfold runFn
  rw [if_pos hl, hi]
  simp only [h]
theorem run_err {f : Fn} {c : Ctx} {ds fs : List D} {k : Nat} {e : Env} (hi : f.ini = none) (hl : ds.length = f.pm.length) (h : exss c f.body (startE f.pm ds ++ List.replicate (f.ns - f.pm.length) .no) = .err k fs e) : runFn f c ds = .err k fs := by
  unfold runFn
  rw [if_pos hl, hi]
  simp only [h]
theorem run_nx {f : Fn} {c : Ctx} {ds : List D} {e : Env} (hi : f.ini = none) (hl : ds.length = f.pm.length) (h : exss c f.body (startE f.pm ds ++ List.replicate (f.ns - f.pm.length) .no) = .nx e) : runFn f c ds = .ok (.val .non) := by
  unfold runFn
  rw [if_pos hl, hi]
  simp only [h]
/-- the drawn row: so many whole numbers, none below 0 -/
theorem row_ok (c : Ctx) (cell : Int) (m : Nat) (hm : m < 1000) : ∃ R : List Int, R.length = m ∧ (∀ x ∈ R, 0 ≤ x) ∧ runFn rowFn c [.int cell, .int m] = .ok (.own (R.map .int)) := by
  have hr0 : inR (m : Int) = true := by unfold inR; simp; omega
  have hSL : SL = 16777216 := rfl
  have rA := fun cell => rowA_loop c m .no ((List.range m).map fun j => ((j : Nat) : Int)) cell [] .no (by simp; omega)
  have rB := rowB_loop c cell m (List.range m) [] .no .no (by simp; omega) (fun j hj => by have := List.mem_range.mp hj; omega)
  rw [← rangeD_nat] at rB
  rw [← rangeD_int] at rA
  have hlen : ((List.range m).map fun j => ((j : Nat) : Int)).length = m := by simp
  have hlen2 : (List.range m).length = m := by simp
  rw [hlen] at rA
  rw [hlen2] at rB
  obtain ⟨mi, hmi⟩ : ∃ mi : Int, mi = (m : Int) := ⟨_, rfl⟩
  rw [← hmi] at hr0 rA rB ⊢
  have hr := hr0
  clear hr0 hlen hlen2
  obtain ⟨big, hbig⟩ : ∃ big : Int, big = (10 : Int) ^ (18 : Int).toNat := ⟨_, rfl⟩
  have test : ∀ env : Env, env[0]? = some (.val (.int cell)) → tv c (.cmp .ge (.s 0) (.e (.bin .pow (.e (.int 10)) (.e (.int 18))))) env = .ok (decide (big ≤ cell)) := fun env e => by
    simp only [tv, po, peek, e, Res.bind_ok, ev, pt, Vl.d_val, bin_pow _ _ ten18, cmp, ← hbig]
  have fr : ∀ (b : List S) (o : Out), forLoop (.n 3) (exss c b) (rangeD 0 mi) [.val (.int cell), .val (.int mi), .own [], .no, .no] = o → exs c (.forl [] (.n 3) (.r1 (.v 1)) b) [.val (.int cell), .val (.int mi), .own [], .no, .no] = o := fun b o e => by
    simp only [exs, frz, List.foldl_nil, itsF, its, ev, getv, List.getElem?_cons_succ, List.getElem?_cons_zero, Res.bind_ok, asInt, hr, if_true, Res.to_ok, e]
  have a0 : exs c (.asg [] 2 (.lst [])) [.val (.int cell), .val (.int mi), .no, .no, .no] = .nx [.val (.int cell), .val (.int mi), .own [], .no, .no] := by
    simp [exs, frz, ev, evs]
  by_cases h : big ≤ cell
  · obtain ⟨cell', Q, s3', h1, h2, h3⟩ := rA cell
    refine ⟨Q, h1, h2, run_ret rfl rfl ?_⟩
    have h3 := fr _ _ h3
    have t := test [.val (.int cell), .val (.int mi), .own [], .no, .no] rfl
    rw [decide_eq_true h] at t
    show exss c _ [.val (.int cell), .val (.int mi), .no, .no, .no] = _
    have e2 : exs c (.ite [] (.cmp .ge (.s 0) (.e (.bin .pow (.e (.int 10)) (.e (.int 18))))) [.forl [] (.n 3) (.r1 (.v 1)) rowA, .reto 2] []) [.val (.int cell), .val (.int mi), .own [], .no, .no] = .ret (.own (Q.map .int)) := by
      rw [exs]
      simp only [frz, List.foldl_nil, t, Res.to_ok, if_true, exss, h3, Out.seq_nx]
      simp [exs]
    unfold rowFn
    simp only [exss, a0, Out.seq_nx, e2, Out.seq_ret]
  · obtain ⟨Q, s3', s4', h1, h2, h3⟩ := rB
    refine ⟨Q, h1, h2, run_ret rfl rfl ?_⟩
    have h3 := fr _ _ h3
    have t := test [.val (.int cell), .val (.int mi), .own [], .no, .no] rfl
    rw [decide_eq_false h] at t
    show exss c _ [.val (.int cell), .val (.int mi), .no, .no, .no] = _
    have e2 : exs c (.ite [] (.cmp .ge (.s 0) (.e (.bin .pow (.e (.int 10)) (.e (.int 18))))) [.forl [] (.n 3) (.r1 (.v 1)) rowA, .reto 2] []) [.val (.int cell), .val (.int mi), .own [], .no, .no] = .nx [.val (.int cell), .val (.int mi), .own [], .no, .no] := by
      rw [exs]
      simp only [frz, List.foldl_nil, t, Res.to_ok, Bool.false_eq_true, if_false, exss]
    unfold rowFn
    simp only [exss, a0, Out.seq_nx, e2, h3]
    simp [exs]
/-! ### items -/
theorem index_lst {xs : List D} {i : Int} {d : D} (h : (ixNat xs.length i).bind (xs[·]?) = some d) : index (.lst xs) (.int i) = .ok d := by
  simp only [index, h]
theorem index_tup {xs : List D} {i : Int} {d : D} (h : (ixNat xs.length i).bind (xs[·]?) = some d) : index (.tup xs) (.int i) = .ok d := by
  simp only [index, h]
theorem index_str {x : Str} {i : Int} {z : Nat} (hl : x.length ≤ SL) (h : (ixNat x.cps.toList.length i).bind (x.cps.toList[·]?) = some z) : index (.str x) (.int i) = .ok (.str ⟨#[z]⟩) := by
  simp only [index, hl, if_true, h]
theorem index_ints {R : List Int} {i : Int} (h : 0 ≤ i) (h2 : i < R.length) : index (.lst (R.map .int)) (.int i) = .ok (.int (R.getD i.toNat 0)) := by
  have hi : i.toNat < R.length := by omega
  refine index_lst ?_
  rw [List.length_map, ixNat_nn h h2]
  simp only [Option.bind_some, List.getElem?_map, List.getElem?_eq_getElem hi, Option.map_some]
  rw [List.getD_eq_getElem?_getD, List.getElem?_eq_getElem hi, Option.getD_some]
/-! ### comprehensions, texts -/
theorem comp_map (turn : D → Res (Option D)) (f : D → D) : ∀ (ds acc : List D), (∀ d ∈ ds, turn d = .ok (some (f d))) → acc.length + ds.length ≤ SL → compLoop turn ds acc = .ok (.own (acc ++ ds.map f))
  | [], acc, _, _ => by simp [compLoop]
  | d :: ds, acc, h, hl => by
    rw [List.length_cons] at hl
    have hz : acc.length < SL := by omega
    simp only [compLoop, h d List.mem_cons_self, hz, if_true]
    rw [comp_map turn f ds (acc ++ [f d]) (fun e he => h e (List.mem_cons_of_mem _ he)) (by rw [List.length_append, List.length_singleton]; omega)]
    simp
theorem comp_fm {α : Type} {turn : D → Res (Option D)} (g : α → D) (f : α → Option D) : ∀ (xs : List α) (acc : List D), (∀ x ∈ xs, turn (g x) = .ok (f x)) → acc.length + xs.length ≤ SL → compLoop turn (xs.map g) acc = .ok (.own (acc ++ xs.filterMap f))
  | [], acc, _, _ => by simp [compLoop]
  | x :: xs, acc, h, hl => by
    rw [List.length_cons] at hl
    have hz : acc.length < SL := by omega
    have e := h x List.mem_cons_self
    rw [List.map_cons]
    cases q : f x with
    | none =>
      rw [q] at e
      simp only [compLoop, e]
      rw [comp_fm g f xs acc (fun y hy => h y (List.mem_cons_of_mem _ hy)) (by omega), List.filterMap_cons, q]
    | some d =>
      rw [q] at e
      simp only [compLoop, e, hz, if_true]
      rw [comp_fm g f xs (acc ++ [d]) (fun y hy => h y (List.mem_cons_of_mem _ hy)) (by rw [List.length_append, List.length_singleton]; omega), List.filterMap_cons, q]
      simp
theorem strsOf_map : ∀ zs : List Str, strsOf (zs.map D.str) = some zs
  | [] => rfl
  | z :: zs => by simp [strsOf, strsOf_map zs]
theorem strOk_app {a b : Str} (h1 : PySem.PyData.strOk a = true) (h2 : PySem.PyData.strOk b = true) : PySem.PyData.strOk (a ++ b) = true := by
  unfold PySem.PyData.strOk at *
  show (a.cps ++ b.cps).all _ = true
  rw [Array.all_append, h1, h2]
  rfl
theorem strOk_join {x : Str} (hx : PySem.PyData.strOk x = true) : ∀ {zs : List Str}, (∀ z ∈ zs, PySem.PyData.strOk z = true) → PySem.PyData.strOk (PySem.Str.join x zs) = true
  | [], _ => by simp [PySem.Str.join, PySem.PyData.strOk, PySem.Str.empty]
  | [z], h => h z List.mem_cons_self
  | z :: y :: r, h => strOk_app (strOk_app (h z List.mem_cons_self) hx) (strOk_join hx fun w hw => h w (List.mem_cons_of_mem _ hw))
theorem ev_comp {c : Ctx} {tg : Tg} {it : It} {cs : List T} {el : E} {own : List Nat} {env : Env} {ds : List D} (h : its c it env = .ok ds) : ev c (.comp tg it cs el own) env = compLoop (turnD tg own env (tvs c cs) (ev c el)) ds [] := by
  rw [ev, h]
  rfl
theorem ev_join {c : Ctx} {x : Str} {e : E} {env : Env} {zs : List Str} (h : ev c e env = .ok (.own (zs.map .str))) (hl : (zs.map (·.length)).sum + zs.length * x.length ≤ SL) : ev c (.m1 .join (.str x) (.e e)) env = .ok (.val (.str (PySem.Txt.join x zs))) := by
  rw [ev]
  simp only [ev, po, h, Res.bind_ok, Vl.d_own, Vl.d_val, m1, strsOf_map, hl, if_true]
theorem sum_len1 : ∀ {zs : List Str}, (∀ z ∈ zs, z.length = 1) → (zs.map (·.length)).sum = zs.length
  | [], _ => rfl
  | z :: zs, h => by
    rw [List.map_cons, List.sum_cons, h z List.mem_cons_self, sum_len1 fun w hw => h w (List.mem_cons_of_mem _ hw), List.length_cons]
    omega
theorem strOk_empty : PySem.PyData.strOk ("" : Str) = true := by decide +kernel
theorem exs_ret {c : Ctx} {e : E} {env : Env} {v : Vl} (h : ev c e env = .ok v) : exs c (.ret [] e) env = .ret v := by
  simp only [exs, frz, List.foldl_nil, h, Res.to_ok]
theorem exs_asg {c : Ctx} {e : E} {env : Env} {v : Vl} {i : Nat} (h : ev c e env = .ok v) : exs c (.asg [] i e) env = .nx (env.set i v.sl) := by
  simp only [exs, frz, List.foldl_nil, h, Res.to_ok]
theorem exss_nx {c : Ctx} {s : S} {r : List S} {env env' : Env} (h : exs c s env = .nx env') : exss c (s :: r) env = exss c r env' := by
  simp only [exss, h, Out.seq_nx]
theorem exss_ret {c : Ctx} {s : S} {r : List S} {env : Env} {v : Vl} (h : exs c s env = .ret v) : exss c (s :: r) env = .ret v := by
  simp only [exss, h, Out.seq_ret]
theorem seq_id (o : Out) : (o.seq fun e => .nx e) = o := by cases o <;> rfl
theorem exss_one (c : Ctx) (s : S) (env : Env) : exss c [s] env = exs c s env := by
  simp only [exss]
  exact seq_id _
/-! ### loops -/
/-- a loop by an invariant over what is walked -/
theorem for_inv {tg : Tg} {body : Env → Out} {α : Type} (g : α → D) (I : List α → Env → Prop) (step : ∀ (done : List α) (a : α) (env : Env), I done env → ∃ e1, setT tg (g a) env = some e1 ∧ ∃ e2, body e1 = .nx e2 ∧ I (done ++ [a]) e2) :
    ∀ (todo done : List α) (env : Env), I done env → ∃ e2, forLoop tg body (todo.map g) env = .nx e2 ∧ I (done ++ todo) e2
  | [], done, env, h => ⟨env, rfl, by simpa using h⟩
  | a :: todo, done, env, h => by
    obtain ⟨e1, h1, e2, h2, h3⟩ := step done a env h
    obtain ⟨e3, h4, h5⟩ := for_inv g I step todo (done ++ [a]) e2 h3
    rw [List.map_cons]
    simp only [forLoop, h1, h2]
    exact ⟨e3, h4, by simpa using h5⟩
/-- the same, with the place of each -/
theorem for_at {tg : Tg} {body : Env → Out} {α : Type} (g : α → D) (xs : List α) (I : Nat → Env → Prop) (step : ∀ (i : Nat) (a : α) (env : Env), xs[i]? = some a → I i env → ∃ e1, setT tg (g a) env = some e1 ∧ ∃ e2, body e1 = .nx e2 ∧ I (i + 1) e2) {env : Env} (h : I 0 env) :
    ∃ e2, forLoop tg body (xs.map g) env = .nx e2 ∧ I xs.length e2 := by
  have go : ∀ (todo : List α) (i : Nat) (env : Env), xs.drop i = todo → I i env → ∃ e2, forLoop tg body (todo.map g) env = .nx e2 ∧ I (i + todo.length) e2 := by
    intro todo
    induction todo with
    | nil => exact fun i env _ h => ⟨env, rfl, h⟩
    | cons a todo ih =>
      intro i env hd h
      have hi : xs[i]? = some a := by
        have : (xs.drop i)[0]? = some a := by rw [hd]; rfl
        rw [List.getElem?_drop] at this
        simpa using this
      obtain ⟨e1, h1, e2, h2, h3⟩ := step i a env hi h
      have hd2 : xs.drop (i + 1) = todo := by
        have q : (xs.drop i).drop 1 = todo := by rw [hd]; rfl
        rw [List.drop_drop] at q
        exact q
      obtain ⟨e3, h4, h5⟩ := ih (i + 1) e2 hd2 h3
      rw [List.map_cons]
      simp only [forLoop, h1, h2]
      refine ⟨e3, h4, ?_⟩
      rw [List.length_cons]
      have : i + (todo.length + 1) = i + 1 + todo.length := by omega
      rw [this]
      exact h5
  obtain ⟨e2, h1, h2⟩ := go xs 0 env rfl h
  exact ⟨e2, h1, by simpa using h2⟩
/-! ### statement by statement: the goal is exss c (s :: r) env = out -/
section
variable {c : Ctx} {e : E} {t : T} {a b r : List S} {env env1 env' : Env} {v : Vl} {i : Nat} {out : Out} {fr : List Nat} {ds fs : List D} {k : Nat}
theorem st_asg (h : ev c e env = .ok v) (h2 : exss c r (env.set i v.sl) = out) : exss c (.asg [] i e :: r) env = out := by
  rw [exss_nx (exs_asg h)]; exact h2
theorem st_asgf (hf : frz fr env = env1) (h : ev c e env1 = .ok v) (h2 : exss c r (env1.set i v.sl) = out) : exss c (.asg fr i e :: r) env = out := by
  rw [exss_nx (env' := env1.set i v.sl) (by simp only [exs, hf, h, Res.to_ok])]; exact h2
theorem st_asgt {is : List Nat} (h : ev c e env = .ok v) (h1 : setT (.t is) v.d env = some env') (h2 : exss c r env' = out) : exss c (.asgt [] is e :: r) env = out := by
  rw [exss_nx (env' := env') (by simp only [exs, frz, List.foldl_nil, h, Res.to_ok, h1])]; exact h2
theorem st_ret (h : ev c e env = .ok v) : exss c (.ret [] e :: r) env = .ret v := exss_ret (exs_ret h)
theorem st_retf (hf : frz fr env = env1) (h : ev c e env1 = .ok v) : exss c (.ret fr e :: r) env = .ret v := exss_ret (by simp only [exs, hf, h, Res.to_ok])
theorem st_reto (h : env[i]? = some (.own ds)) : exss c (.reto i :: r) env = .ret (.own ds) := exss_ret (by simp only [exs, h])
theorem st_if {k : Bool} (h : tv c t env = .ok k) (h2 : (if k = true then exss c a env else exss c b env).seq (exss c r) = out) : exss c (.ite [] t a b :: r) env = out := by
  simp only [exss, exs, frz, List.foldl_nil, h, Res.to_ok]; exact h2
theorem st_no (h : tv c t env = .ok false) (h2 : exss c r env = out) : exss c (.ite [] t a [] :: r) env = out := by
  rw [exss_nx (env' := env) (by simp only [exs, frz, List.foldl_nil, h, Res.to_ok, Bool.false_eq_true, if_false, exss])]; exact h2
theorem st_nof (hf : frz fr env = env1) (h : tv c t env1 = .ok false) (h2 : exss c r env1 = out) : exss c (.ite fr t a [] :: r) env = out := by
  rw [exss_nx (env' := env1) (by simp only [exs, hf, h, Res.to_ok, Bool.false_eq_true, if_false, exss])]; exact h2
theorem st_noB (h : tv c t env = .ok false) (h1 : exss c b env = .nx env') (h2 : exss c r env' = out) : exss c (.ite [] t a b :: r) env = out := by
  rw [exss_nx (env' := env') (by simp only [exs, frz, List.foldl_nil, h, Res.to_ok, Bool.false_eq_true, if_false, h1])]; exact h2
theorem st_yes (h : tv c t env = .ok true) (h1 : exss c a env = .nx env') (h2 : exss c r env' = out) : exss c (.ite [] t a b :: r) env = out := by
  rw [exss_nx (env' := env') (by simp only [exs, frz, List.foldl_nil, h, Res.to_ok, if_true, h1])]; exact h2
theorem st_yesR (h : tv c t env = .ok true) (h1 : exss c a env = .ret v) : exss c (.ite [] t a b :: r) env = .ret v :=
  exss_ret (by simp only [exs, frz, List.foldl_nil, h, Res.to_ok, if_true, h1])
theorem st_yesE (h : tv c t env = .ok true) (h1 : exss c a env = .err k fs env') : exss c (.ite [] t a b :: r) env = .err k fs env' := by
  simp only [exss, exs, frz, List.foldl_nil, h, Res.to_ok, if_true, h1, Out.seq_err]
theorem st_rais {es : List E} (h : evs c es env = .ok ds) : exss c (.rais k es :: r) env = .err k ds env := by
  simp only [exss, exs, h, Res.to_ok, Out.seq_err]
theorem st_app (h0 : env[i]? = some (.own ds)) (hl : ds.length < SL) (h : ev c e env = .ok v) (h2 : exss c r (env.set i (.own (ds ++ [v.d]))) = out) : exss c (.app [] i e :: r) env = out := by
  rw [exss_nx (env' := env.set i (.own (ds ++ [v.d]))) (by simp only [exs, frz, List.foldl_nil, h0, h, Res.to_ok, hl, if_true])]; exact h2
theorem st_appf (hf : frz fr env = env1) (h0 : env1[i]? = some (.own ds)) (hl : ds.length < SL) (h : ev c e env1 = .ok v) (h2 : exss c r (env1.set i (.own (ds ++ [v.d]))) = out) : exss c (.app fr i e :: r) env = out := by
  rw [exss_nx (env' := env1.set i (.own (ds ++ [v.d]))) (by simp only [exs, hf, h0, h, Res.to_ok, hl, if_true])]; exact h2
theorem st_ex (h : ev c e env = .ok v) (h2 : exss c r env = out) : exss c (.ex [] e :: r) env = out := by
  rw [exss_nx (env' := env) (by simp only [exs, frz, List.foldl_nil, h, Res.to_ok])]; exact h2
theorem st_exE (h : ev c e env = .err k fs) : exss c (.ex [] e :: r) env = .err k fs env := by
  simp only [exss, exs, frz, List.foldl_nil, h, Res.to_err, Out.seq_err]
theorem st_for {tg : Tg} {it : It} (h : itsF c it env = .ok ds) (h1 : forLoop tg (exss c b) ds env = .nx env') (h2 : exss c r env' = out) : exss c (.forl [] tg it b :: r) env = out := by
  rw [exss_nx (env' := env') (by simp only [exs, frz, List.foldl_nil, h, Res.to_ok, h1])]; exact h2
theorem st_forR {tg : Tg} {it : It} (h : itsF c it env = .ok ds) (h1 : forLoop tg (exss c b) ds env = .ret v) : exss c (.forl [] tg it b :: r) env = .ret v :=
  exss_ret (by simp only [exs, frz, List.foldl_nil, h, Res.to_ok, h1])
theorem st_forE {tg : Tg} {it : It} (h : itsF c it env = .ok ds) (h1 : forLoop tg (exss c b) ds env = .err k fs env') : exss c (.forl [] tg it b :: r) env = .err k fs env' := by
  simp only [exss, exs, frz, List.foldl_nil, h, Res.to_ok, h1, Out.seq_err]
theorem st_forf {tg : Tg} {it : It} (hf : frz fr env = env1) (h : itsF c it env1 = .ok ds) (h1 : forLoop tg (exss c b) ds env1 = .nx env') (h2 : exss c r env' = out) : exss c (.forl fr tg it b :: r) env = out := by
  rw [exss_nx (env' := env') (by simp only [exs, hf, h, Res.to_ok, h1])]; exact h2
theorem st_tryN {hs : List (Nat × Option Nat × List S)} (h : exss c b env = .nx env') (h2 : exss c r env' = out) : exss c (.try b hs :: r) env = out := by
  rw [exss_nx (env' := env') (by simp only [exs, h])]; exact h2
theorem st_tryR {hs : List (Nat × Option Nat × List S)} (h : exss c b env = .ret v) : exss c (.try b hs :: r) env = .ret v :=
  exss_ret (by simp only [exs, h])
theorem st_tryE {hs : List (Nat × Option Nat × List S)} (h : exss c b env = .err k fs env') (h1 : hds c hs k fs env' = .ret v) : exss c (.try b hs :: r) env = .ret v :=
  exss_ret (by simp only [exs, h, h1])
theorem st_tryC {hs : List (Nat × Option Nat × List S)} (h : exss c b env = .err k fs env1) (h1 : hds c hs k fs env1 = .nx env') (h2 : exss c r env' = out) : exss c (.try b hs :: r) env = out := by
  rw [exss_nx (env' := env') (by simp only [exs, h, h1])]; exact h2
theorem st_seti {ke : E} {z : Int} {j : Nat} (h0 : env[i]? = some (.own ds)) (h : ev c e env = .ok v) (h3 : ev c ke env = .ok (.val (.int z))) (h4 : ixNat ds.length z = some j) (h2 : exss c r (env.set i (.own (ds.set j v.d))) = out) : exss c (.seti [] i ke e :: r) env = out := by
  rw [exss_nx (env' := env.set i (.own (ds.set j v.d))) (by simp only [exs, frz, List.foldl_nil, h0, h, h3, h4, Res.to_ok])]; exact h2
theorem st_aug {x y : Int} (h0 : env[i]? = some (.val (.int x))) (h : ev c e env = .ok (.val (.int y))) (h2 : exss c r (env.set i (.val (.int (x + y)))) = out) : exss c (.aug i .add e :: r) env = out := by
  rw [exss_nx (env' := env.set i (.val (.int (x + y)))) (by simp only [exs, h0, h, Res.to_ok])]; exact h2
end
theorem inR_s {n : Int} (h : -4611686018427387904 ≤ n) (h2 : n < 4611686018427387904) : inR n = true := by
  unfold inR
  simp only [Bool.and_eq_true, decide_eq_true_eq]
  exact ⟨by omega, by omega⟩
/-- the days s, s+1, .. n of them -/
def daysFrom (s : Int) (n : Nat) : List Int := (List.range n).map fun (k : Nat) => s + (k : Int)
theorem daysFrom_add (s : Int) (m n : Nat) : daysFrom s (m + n) = daysFrom s m ++ daysFrom (s + m) n := by
  unfold daysFrom
  rw [List.range_add, List.map_append, List.map_map]
  congr 1
  refine List.map_congr_left fun k _ => ?_
  simp only [Function.comp_apply]
  omega
theorem daysFrom_mem {s k : Int} {n : Nat} (h : k ∈ daysFrom s n) : s ≤ k ∧ k < s + n := by
  unfold daysFrom at h
  obtain ⟨x, hx, rfl⟩ := List.mem_map.mp h
  have := List.mem_range.mp hx
  omega
theorem daysFrom_const {s : Int} {n : Nat} {f : Int → Int} {c : Int} (h : ∀ k, s ≤ k → k < s + n → f k = c) : (daysFrom s n).map f = List.replicate n c := by
  refine List.eq_replicate_iff.mpr ⟨by unfold daysFrom; simp, fun x hx => ?_⟩
  obtain ⟨k, hk, rfl⟩ := List.mem_map.mp hx
  have := daysFrom_mem hk
  exact h k this.1 this.2
theorem daysFrom_len (s : Int) (n : Nat) : (daysFrom s n).length = n := by
  unfold daysFrom
  simp
theorem daysFrom_get (s : Int) (n i : Nat) (h : i < n) : (daysFrom s n)[i]? = some (s + i) := by
  unfold daysFrom
  simp [h]
theorem rangeD_days (n : Int) : rangeD 0 n = (daysFrom 0 n.toNat).map D.int := by
  unfold rangeD daysFrom
  rw [List.map_map, Int.sub_zero]
  rfl
theorem rangeD_from (a b : Int) : rangeD a b = (daysFrom a (b - a).toNat).map D.int := by
  unfold rangeD daysFrom
  rw [List.map_map]
  rfl
theorem its_r1 {c : Ctx} {e : E} {env : Env} {n : Int} (h : ev c e env = .ok (.val (.int n))) (h1 : inR n = true) : its c (.r1 e) env = .ok ((daysFrom 0 n.toNat).map D.int) := by
  simp only [its, h, Res.bind_ok, asInt, h1, if_true, rangeD_days]
theorem itsF_r1 {c : Ctx} {e : E} {env : Env} {n : Int} (h : ev c e env = .ok (.val (.int n))) (h1 : inR n = true) : itsF c (.r1 e) env = .ok ((daysFrom 0 n.toNat).map D.int) := its_r1 h h1
theorem index_neg1 {xs : List D} {d : D} (h : xs.getLast? = some d) : index (.lst xs) (.int (-1)) = .ok d := by
  have hn : xs ≠ [] := by intro e; rw [e] at h; cases h
  have hp := List.length_pos_iff.mpr hn
  refine index_lst ?_
  unfold ixNat
  rw [if_neg (by omega), if_pos (by omega), Option.bind_some, show ((-1 : Int) + (xs.length : Int)).toNat = xs.length - 1 by omega, ← List.getLast?_eq_getElem?]
  exact h
theorem filterMap_if {α β : Type} (p : α → Bool) (f : α → β) : ∀ xs : List α, (xs.filterMap fun x => if p x = true then some (f x) else none) = (xs.filter p).map f
  | [] => rfl
  | x :: xs => by
    cases h : p x <;> simp [List.filterMap_cons, List.filter_cons, h, filterMap_if p f xs]
theorem filterMap_some' {α β : Type} (f : α → β) : ∀ xs : List α, (xs.filterMap fun x => some (f x)) = xs.map f
  | [] => rfl
  | x :: xs => by simp [List.filterMap_cons, filterMap_some' f xs]
theorem comp_mp {α : Type} {turn : D → Res (Option D)} (g : α → D) (f : α → D) (xs : List α) (acc : List D) (h : ∀ x ∈ xs, turn (g x) = .ok (some (f x))) (hl : acc.length + xs.length ≤ SL) : compLoop turn (xs.map g) acc = .ok (.own (acc ++ xs.map f)) := by
  rw [comp_fm g (fun x => some (f x)) xs acc h hl, filterMap_some']
/-- a loop that builds a list -/
theorem for_build {tg : Tg} {body : Env → Out} {α : Type} (g : α → D) (f : α → List D) (I : List D → Env → Prop) : ∀ (xs : List α) (acc : List D) (env : Env),
    (∀ a ∈ xs, ∀ acc env, acc.length + (f a).length ≤ SL → I acc env → ∃ e1, setT tg (g a) env = some e1 ∧ ∃ e2, (body e1 = .nx e2 ∨ body e1 = .ct e2) ∧ I (acc ++ f a) e2) →
    acc.length + (xs.flatMap f).length ≤ SL → I acc env → ∃ e2, forLoop tg body (xs.map g) env = .nx e2 ∧ I (acc ++ xs.flatMap f) e2
  | [], acc, env, _, _, h => ⟨env, rfl, by simpa using h⟩
  | a :: xs, acc, env, step, hl, h => by
    rw [List.flatMap_cons, List.length_append] at hl
    obtain ⟨e1, h1, e2, h2, h3⟩ := step a List.mem_cons_self acc env (by omega) h
    obtain ⟨e3, h4, h5⟩ := for_build g f I xs (acc ++ f a) e2 (fun b hb => step b (List.mem_cons_of_mem _ hb)) (by rw [List.length_append]; omega) h3
    refine ⟨e3, ?_, by rw [List.flatMap_cons, ← List.append_assoc]; exact h5⟩
    rw [List.map_cons]
    rcases h2 with h2 | h2
    · simp only [forLoop, h1, h2]
      exact h4
    · simp only [forLoop, h1, h2]
      exact h4
theorem flatMap_one {α β : Type} (f : α → β) : ∀ xs : List α, (xs.flatMap fun x => [f x]) = xs.map f
  | [] => rfl
  | x :: xs => by rw [List.flatMap_cons, flatMap_one f xs]; rfl
theorem for_map {tg : Tg} {body : Env → Out} {α : Type} (g : α → D) (f : α → D) (I : List D → Env → Prop) (xs : List α) (acc : List D) (env : Env)
    (step : ∀ a ∈ xs, ∀ acc env, acc.length < SL → I acc env → ∃ e1, setT tg (g a) env = some e1 ∧ ∃ e2, (body e1 = .nx e2 ∨ body e1 = .ct e2) ∧ I (acc ++ [f a]) e2)
    (hl : acc.length + xs.length ≤ SL) (h : I acc env) : ∃ e2, forLoop tg body (xs.map g) env = .nx e2 ∧ I (acc ++ xs.map f) e2 := by
  have := for_build g (fun x => [f x]) I xs acc env (fun a ha acc env hl => step a ha acc env (by rw [List.length_singleton] at hl; omega)) (by rw [flatMap_one, List.length_map]; exact hl) h
  rw [flatMap_one] at this
  exact this
/-- a loop that changes nothing that matters -/
theorem for_keep {tg : Tg} {body : Env → Out} {α : Type} (g : α → D) (I : Env → Prop) : ∀ (xs : List α) (env : Env),
    (∀ a ∈ xs, ∀ env, I env → ∃ e1, setT tg (g a) env = some e1 ∧ ∃ e2, (body e1 = .nx e2 ∨ body e1 = .ct e2) ∧ I e2) → I env → ∃ e2, forLoop tg body (xs.map g) env = .nx e2 ∧ I e2
  | [], env, _, h => ⟨env, rfl, h⟩
  | a :: xs, env, step, h => by
    obtain ⟨e1, h1, e2, h2, h3⟩ := step a List.mem_cons_self env h
    obtain ⟨e3, h4, h5⟩ := for_keep g I xs e2 (fun b hb => step b (List.mem_cons_of_mem _ hb)) h3
    refine ⟨e3, ?_, h5⟩
    rw [List.map_cons]
    rcases h2 with h2 | h2
    · simp only [forLoop, h1, h2]
      exact h4
    · simp only [forLoop, h1, h2]
      exact h4
theorem intsOf_map : ∀ xs : List Int, intsOf (xs.map D.int) = some xs
  | [] => rfl
  | x :: xs => by simp [intsOf, intsOf_map xs]
mutual
/-- == of a thing with itself -/
theorem eqD_refl : ∀ (n : Nat) (d : D), eqOk n d = true → eqD d d = true
  | _, .non, _ => rfl
  | _, .bl b, _ => by simp [eqD]
  | _, .int i, _ => by simp [eqD]
  | _, .str x, _ => by simp [eqD]
  | 0, .tup _, h => by simp [eqOk] at h
  | 0, .lst _, h => by simp [eqOk] at h
  | n + 1, .tup xs, h => by simp only [eqD]; exact eqDs_refl n xs (by simpa [eqOk] using h)
  | n + 1, .lst xs, h => by simp only [eqD]; exact eqDs_refl n xs (by simpa [eqOk] using h)
  | 0, .ins _ _, h => by simp [eqOk] at h
  | _ + 1, .ins _ _, h => by simp [eqOk] at h
theorem eqDs_refl : ∀ (n : Nat) (ds : List D), eqOks n ds = true → eqDs ds ds = true
  | _, [], _ => rfl
  | n, x :: xs, h => by
    simp only [eqOks, Bool.and_eq_true] at h
    simp only [eqDs, eqD_refl n x h.1, eqDs_refl n xs h.2, Bool.and_true]
end
theorem eqOks_map {α : Type} {n : Nat} {g : α → D} (h : ∀ x, eqOk n (g x) = true) : ∀ xs : List α, eqOks n (xs.map g) = true
  | [] => by simp [eqOks]
  | x :: xs => by simp [eqOks, h x, eqOks_map h xs]
theorem cmp_self {d : D} (h : eqOk 60 d = true) : cmp .eq d d = .ok true := by
  simp only [cmp, h, Bool.and_self, if_true, eqD_refl 60 d h]
theorem cmp_self_ne {d : D} (h : eqOk 60 d = true) : cmp .ne d d = .ok false := by
  simp only [cmp, h, Bool.and_self, if_true, eqD_refl 60 d h, Bool.not_true]
theorem frz_val {env : Env} {i : Nat} {d : D} (h : env[i]? = some (.val d)) : frz [i] env = env := by
  simp only [frz, List.foldl_cons, List.foldl_nil, frz1, h]
theorem frz_own {env : Env} {i : Nat} {ds : List D} (h : env[i]? = some (.own ds)) : frz [i] env = env.set i (.val (.lst ds)) := by
  simp only [frz, List.foldl_cons, List.foldl_nil, frz1, h]
theorem SLe : SL = 16777216 := rfl
theorem ev_mth {c : Ctx} {k f : Nat} {o : E} {es : List A} {env : Env} {fs ds : List D} {r : Res Vl} (h0 : ev c o env = .ok (.val (.ins k fs))) (h : args c es env = .ok ds) (h2 : c.call f (.ins k fs :: ds) = r) : ev c (.mth k f o es) env = r := by
  rw [ev, h0]
  simp only [Res.bind_ok, Vl.d_val, if_true, h]
  exact h2
theorem ev_mk {c : Ctx} {f : Nat} {es : List A} {env : Env} {ds : List D} {r : Res Vl} (h : args c es env = .ok ds) (h2 : c.call f ds = r) : ev c (.mk f es) env = r := by
  rw [ev, h]
  exact h2
theorem cutL_map {α : Type} (g : α → D) (xs : List α) (i j : Int) (hi : 0 ≤ i) (hj : 0 ≤ j) (h1 : i ≤ xs.length) (h2 : j ≤ xs.length) : cutL (xs.map g) (some i) (some j) = ((xs.drop i.toNat).take (j.toNat - i.toNat)).map g := by
  unfold cutL cutIx
  simp only [List.length_map]
  rw [if_neg (by omega), if_neg (by omega), Nat.min_eq_left (by omega), Nat.min_eq_left (by omega), List.map_take, List.map_drop]
theorem intsOf_fun {α : Type} (f : α → Int) : ∀ xs : List α, intsOf (xs.map fun x => D.int (f x)) = some (xs.map f)
  | [] => rfl
  | x :: xs => by simp [intsOf, intsOf_fun f xs]
/-! ### instances, calls -/
theorem run_ini {f : Fn} {c : Ctx} {ds xs : List D} {k k2 : Nat} {e : Env} (hi : f.ini = some k) (hl : ds.length = f.pm.length) (h : exss c f.body (.obj k [] :: startE f.pm ds ++ List.replicate (f.ns - f.pm.length - 1) .no) = .nx (.obj k2 xs :: e)) : runFn f c ds = .ok (.val (.ins k xs)) := by
  unfold runFn
  rw [if_pos hl, hi]
  simp only [h, List.head?_cons]
theorem run_inie {f : Fn} {c : Ctx} {ds xs : List D} {k z : Nat} {e : Env} (hi : f.ini = some k) (hl : ds.length = f.pm.length) (h : exss c f.body (.obj k [] :: startE f.pm ds ++ List.replicate (f.ns - f.pm.length - 1) .no) = .err z xs e) : runFn f c ds = .err z xs := by
  unfold runFn
  rw [if_pos hl, hi]
  simp only [h]
theorem st_setf {c : Ctx} {e : E} {env : Env} {v : Vl} {k j : Nat} {ds : List D} {r : List S} {out : Out} (h : ev c e (.obj k ds :: env) = .ok v) (hj : j = ds.length) (h2 : j < 100) (h3 : exss c r (.obj k (ds ++ [v.d]) :: env) = out) : exss c (.setf [] k j e :: r) (.obj k ds :: env) = out := by
  have e1 : exs c (.setf [] k j e) (.obj k ds :: env) = .nx (.obj k (ds ++ [v.d]) :: env) := by
    simp only [exs, frz, List.foldl_nil, h, Res.to_ok, List.head?_cons, List.set_cons_zero]
    exact if_pos ⟨trivial, hj, h2⟩
  rw [exss_nx e1]
  exact h3
theorem ev_call {c : Ctx} {f : Nat} {es : List A} {env : Env} {ds : List D} {r : Res Vl} (h : args c es env = .ok ds) (h2 : c.call f ds = r) : ev c (.call f es) env = r := by
  rw [ev, h]
  exact h2
theorem fmod_lt {a b : Int} (h : 0 < b) : 0 ≤ a.fmod b ∧ a.fmod b < b := ⟨Int.fmod_nonneg_of_pos a h, Int.fmod_lt_of_pos a h⟩
theorem b2_max (i j : Int) : b2 .max (.int i) (.int j) = .ok (.val (.int (max i j))) := by
  simp only [b2]
  by_cases h : j > i
  · rw [if_pos h, show max i j = j by omega]
  · rw [if_neg h, show max i j = i by omega]
theorem b2_min (i j : Int) : b2 .min (.int i) (.int j) = .ok (.val (.int (min i j))) := by
  simp only [b2]
  by_cases h : j < i
  · rw [if_pos h, show min i j = j by omega]
  · rw [if_neg h, show min i j = i by omega]
def wholeFn : Fn := ⟨[true], 1, none, [.ret [] (.and (.isi (.s 0) .int) (.not (.isi (.s 0) .bool)))]⟩
theorem whole_ok (c : Ctx) (i : Int) : runFn wholeFn c [.int i] = .ok (.val (.bl true)) := by
  refine run_ret rfl rfl ?_
  show exss c wholeFn.body [.val (.int i)] = _
  unfold wholeFn
  simp only [exss, exs, frz, List.foldl_nil, ev, po, peek, List.getElem?_cons_zero, Res.bind_ok, Vl.d_val, isTy, ofB, asBool, truthV, truth, Res.to_ok, if_true, Bool.not_false, Out.seq_ret]
  try rfl
/-- a pair -/
def prD (p : Int × Int) : D := .tup [.int p.1, .int p.2]
theorem pr_0 (p : Int × Int) : index (prD p) (.int 0) = .ok (.int p.1) := rfl
theorem pr_1 (p : Int × Int) : index (prD p) (.int 1) = .ok (.int p.2) := rfl
theorem pr_ok (n : Nat) (r : Int × Int) : eqOk (n + 1) (prD r) = true := by simp [prD, eqOk, eqOks]
theorem index_map {α : Type} (g : α → D) {xs : List α} {i : Int} {x : α} (h0 : 0 ≤ i) (h : xs[i.toNat]? = some x) : index (.lst (xs.map g)) (.int i) = .ok (g x) := by
  have hl := (List.getElem?_eq_some_iff.mp h).1
  refine index_lst ?_
  rw [List.length_map, ixNat_nn h0 (by omega)]
  simp only [Option.bind_some, List.getElem?_map, h, Option.map_some]
theorem index_mapT {α : Type} (g : α → D) {xs : List α} {i : Int} {x : α} (h0 : 0 ≤ i) (h : xs[i.toNat]? = some x) : index (.tup (xs.map g)) (.int i) = .ok (g x) := by
  have hl := (List.getElem?_eq_some_iff.mp h).1
  refine index_tup ?_
  rw [List.length_map, ixNat_nn h0 (by omega)]
  simp only [Option.bind_some, List.getElem?_map, h, Option.map_some]
theorem cutL_map' {α β : Type} (g : α → β) (xs : List α) (lo hi : Option Int) : cutL (xs.map g) lo hi = (cutL xs lo hi).map g := by
  unfold cutL
  rw [List.length_map, List.map_take, List.map_drop]
theorem cutL_mem {α : Type} {xs : List α} {lo hi : Option Int} {x : α} (h : x ∈ cutL xs lo hi) : x ∈ xs := List.mem_of_mem_drop (List.mem_of_mem_take h)
theorem cutL_to {α : Type} (xs : List α) (j : Int) (h0 : 0 ≤ j) (h : j ≤ xs.length) : cutL xs none (some j) = xs.take j.toNat := by
  unfold cutL cutIx
  simp only [List.drop_zero, Nat.sub_zero]
  rw [if_neg (by omega), Nat.min_eq_left (by omega)]
theorem cutL_from {α : Type} (xs : List α) (i : Int) (h0 : 0 ≤ i) (h : i ≤ xs.length) : cutL xs (some i) none = xs.drop i.toNat := by
  unfold cutL cutIx
  simp only
  rw [if_neg (by omega), Nat.min_eq_left (by omega), List.take_of_length_le (by rw [List.length_drop]; omega)]
theorem bin_lst {a b : List D} (h : a.length + b.length ≤ SL) : bin .add (.lst a) (.lst b) = .ok (.own (a ++ b)) := by
  simp only [bin]
  rw [if_pos h]
theorem zip_days (us ps : List Int) (h : us.length = ps.length) : (daysFrom 0 us.length).map (fun d => (us.getD d.toNat 0, ps.getD d.toNat 0)) = us.zip ps := by
  refine List.ext_getElem (by simp [daysFrom_len, h]) fun i h1 h2 => ?_
  have h1' : i < us.length := by simpa [daysFrom_len] using h1
  have h2' : i < ps.length := by omega
  simp [daysFrom, h1', h2']
theorem sort_len (xs : List Int) (le : Int → Int → Bool) : (xs.mergeSort le).length = xs.length := (List.mergeSort_perm xs le).length_eq
theorem sort_mem {xs : List Int} {le : Int → Int → Bool} {x : Int} (h : x ∈ xs.mergeSort le) : x ∈ xs := (List.mergeSort_perm xs le).mem_iff.mp h
/-- a loop that looks for the first -/
theorem for_find {tg : Tg} {body : Env → Out} {α : Type} (g : α → D) (p : α → Bool) (v : α → Vl) (I : Env → Prop) : ∀ (xs : List α) (env : Env),
    (∀ a ∈ xs, ∀ env, I env → ∃ e1, setT tg (g a) env = some e1 ∧ (p a = true → body e1 = .ret (v a)) ∧ (p a = false → ∃ e2, body e1 = .nx e2 ∧ I e2)) → I env →
    (∃ a, xs.find? p = some a ∧ forLoop tg body (xs.map g) env = .ret (v a)) ∨ (xs.find? p = none ∧ ∃ e2, forLoop tg body (xs.map g) env = .nx e2 ∧ I e2)
  | [], env, _, h => .inr ⟨rfl, env, rfl, h⟩
  | a :: xs, env, step, h => by
    obtain ⟨e1, h1, h2, h3⟩ := step a List.mem_cons_self env h
    rw [List.map_cons]
    cases q : p a with
    | true =>
      refine .inl ⟨a, by rw [List.find?_cons, q], ?_⟩
      simp only [forLoop, h1, h2 q]
    | false =>
      obtain ⟨e2, h4, h5⟩ := h3 q
      have r := for_find g p v I xs e2 (fun b hb => step b (List.mem_cons_of_mem _ hb)) h5
      rw [List.find?_cons, q]
      simp only [forLoop, h1, h4]
      exact r
theorem its_r2 {c : Ctx} {e f : E} {env : Env} {a b : Int} (h : ev c e env = .ok (.val (.int a))) (h' : ev c f env = .ok (.val (.int b))) (h1 : inR a = true) (h2 : inR b = true) : its c (.r2 e f) env = .ok ((daysFrom a (b - a).toNat).map D.int) := by
  simp only [its, h, h', Res.bind_ok, asInt, h1, h2, Bool.and_self, if_true, rangeD_from]
theorem itsF_r2 {c : Ctx} {e f : E} {env : Env} {a b : Int} (h : ev c e env = .ok (.val (.int a))) (h' : ev c f env = .ok (.val (.int b))) (h1 : inR a = true) (h2 : inR b = true) : itsF c (.r2 e f) env = .ok ((daysFrom a (b - a).toNat).map D.int) := its_r2 h h' h1 h2
end PL

/-! ### the table (printed by gen.py) -/
namespace PL.K22
open PySem PySem.Spec PyProof.Rows L2
def top (i : Nat) : Stmt := PySem.Challenge.pw_dialhouse_k22_slips_of_one_meter.main.body.getD i (.Pass ⟨0, 0, 0, 0⟩)
def memb (st : Stmt) (j : Nat) : Stmt := match st with
  | .ClassDef _ _ _ b _ _ _ _ _ _ _ => b.getD j (.Pass ⟨0, 0, 0, 0⟩)
  | _ => .Pass ⟨0, 0, 0, 0⟩
/-- 0: check_rows(days, rows) -/
def f_check_rows : Fn := ⟨[true, true], 6, none, [.ite [] (.not (.v (.s 1))) [.rais 3 [.str "no row"]] [], .asg [] 2 (.neg (.int 1)), .forl [] (.t [3, 4, 5]) (.sq (.s 1)) [.ite [] (.or (.and (.cmp .lt (.s 2) (.e (.int 0))) (.cmp .ne (.s 3) (.e (.int 0)))) (.or (.cmp .le (.s 3) (.s 2)) (.cmp .ge (.s 3) (.s 0)))) [.rais 3 [.str "days of the rows"]] [], .ite [] (.not (.ch3 .le .le .le (.e (.int 0)) (.s 4) (.s 5) (.e (.g 5 (.int (1000000)))))) [.rais 1 [.str "limits of a row"]] [], .asg [] 2 (.v 3)]]⟩
/-- 1: by_day(days, rows, part) -/
def f_by_day : Fn := ⟨[false, true, true], 7, none, [.asg [] 3 (.lst []), .forl [] (.n 4) (.r1 (.b1 .len (.s 1))) [.asg [] 5 (.v 0), .ite [] (.cmp .lt (.e (.bin .add (.s 4) (.e (.int 1)))) (.e (.b1 .len (.s 1)))) [.asg [] 5 (.ix (.e (.ix (.s 1) (.e (.bin .add (.s 4) (.e (.int 1)))))) (.e (.int 0)))] [], .forl [] (.n 6) (.r1 (.bin .sub (.s 5) (.e (.ix (.e (.ix (.s 1) (.s 4))) (.e (.int 0)))))) [.app [] 3 (.ix (.e (.ix (.s 1) (.s 4))) (.s 2))]], .reto 3]⟩
/-- 2: sums_of(numbers) -/
def f_sums_of : Fn := ⟨[true], 3, none, [.asg [] 1 (.lst [.int 0]), .forl [] (.n 2) (.sq (.s 0)) [.app [] 1 (.bin .add (.e (.ix (.s 1) (.e (.neg (.int 1))))) (.s 2))], .reto 1]⟩
/-- 3: shortest_rows(lows, highs) -/
def f_shortest_rows : Fn := ⟨[true, true], 4, none, [.asg [] 2 (.lst []), .forl [] (.n 3) (.r1 (.b1 .len (.s 0))) [.ite [] (.or (.cmp .eq (.s 3) (.e (.int 0))) (.or (.cmp .ne (.e (.ix (.s 0) (.s 3))) (.e (.ix (.s 0) (.e (.bin .sub (.s 3) (.e (.int 1))))))) (.cmp .ne (.e (.ix (.s 1) (.s 3))) (.e (.ix (.s 1) (.e (.bin .sub (.s 3) (.e (.int 1))))))))) [.app [] 2 (.tup [.v 3, .ix (.s 0) (.s 3), .ix (.s 1) (.s 3)])] []], .reto 2]⟩
/-- 4: Limits_init(self, days, rows) -/
def f_Limits_init : Fn := ⟨[false, true], 3, some 0, [.ite [] (.not (.ch2 .le .le (.e (.int 1)) (.s 1) (.e (.g 4 (.int (400)))))) [.rais 1 [.str "number of days"]] [], .ex [] (.call 0 [.p (.s 1), .p (.s 2)]), .setf [] 0 0 (.v 1), .setf [] 0 1 (.call 1 [.e (.v 1), .p (.s 2), .p (.e (.int 1))]), .setf [] 0 2 (.call 1 [.e (.v 1), .p (.s 2), .p (.e (.int 2))]), .setf [] 0 3 (.call 2 [.p (.e (.sf 0 0 1))]), .setf [] 0 4 (.call 2 [.p (.e (.sf 0 0 2))])]⟩
/-- 5: Limits_least(self, day) -/
def f_Limits_least : Fn := ⟨[false, true], 2, none, [.ite [] (.not (.ch2 .le .lt (.e (.int 0)) (.s 1) (.e (.fld (.v 0) 0 0)))) [.rais 1 [.str "day"]] [], .ret [] (.ix (.e (.fld (.v 0) 0 1)) (.s 1))]⟩
/-- 6: Limits_most(self, day) -/
def f_Limits_most : Fn := ⟨[false, true], 2, none, [.ite [] (.not (.ch2 .le .lt (.e (.int 0)) (.s 1) (.e (.fld (.v 0) 0 0)))) [.rais 1 [.str "day"]] [], .ret [] (.ix (.e (.fld (.v 0) 0 2)) (.s 1))]⟩
/-- 7: Limits_reach(self, i, j) -/
def f_Limits_reach : Fn := ⟨[false, true, true], 5, none, [.ite [] (.or (.not (.ch2 .le .le (.e (.int 0)) (.s 1) (.e (.fld (.v 0) 0 0)))) (.not (.ch2 .le .le (.e (.int 0)) (.s 2) (.e (.fld (.v 0) 0 0))))) [.rais 1 [.str "moment"]] [], .asg [] 3 (.bin .sub (.e (.ix (.e (.fld (.v 0) 0 3)) (.s 2))) (.e (.ix (.e (.fld (.v 0) 0 3)) (.s 1)))), .asg [] 4 (.bin .sub (.e (.ix (.e (.fld (.v 0) 0 4)) (.s 2))) (.e (.ix (.e (.fld (.v 0) 0 4)) (.s 1)))), .ite [] (.cmp .le (.s 1) (.s 2)) [.ret [] (.tup [.v 3, .v 4])] [], .ret [] (.tup [.v 4, .v 3])]⟩
/-- 8: Limits_rows(self) -/
def f_Limits_rows : Fn := ⟨[false], 1, none, [.ret [] (.call 3 [.p (.e (.fld (.v 0) 0 1)), .p (.e (.fld (.v 0) 0 2))])]⟩
/-- 9: Limits_part(self, i, j) -/
def f_Limits_part : Fn := ⟨[false, false, false], 3, none, [.ite [] (.not (.ch3 .le .lt .le (.e (.int 0)) (.s 1) (.s 2) (.e (.fld (.v 0) 0 0)))) [.rais 1 [.str "stretch"]] [], .ret [] (.mk 4 [.e (.bin .sub (.s 2) (.s 1)), .p (.e (.call 3 [.p (.e (.sl (.e (.fld (.v 0) 0 1)) (some (.v 1)) (some (.v 2)))), .p (.e (.sl (.e (.fld (.v 0) 0 2)) (some (.v 1)) (some (.v 2))))]))])]⟩
/-- 10: Limits_pinned(self, day, least, most) -/
def f_Limits_pinned : Fn := ⟨[false, true, true, true], 4, none, [.ex [] (.call 11 [.p (.e (.int 0))])]⟩
/-- 11: wall(k) -/
def f_wall : Fn := ⟨[true], 1, none, [.whl [] (.v (.e (.bl true))) [.pass]]⟩
/-- 12: lowest_at(limits, notes, moment) -/
def f_lowest_at : Fn := ⟨[false, true, true], 6, none, [.ret [] (.b1 .max (.e (.comp (.t [3, 4, 5]) (.sq (.s 1)) [] (.bin .add (.s 4) (.e (.ix (.e (.mth 0 7 (.v 0) [.p (.s 3), .p (.s 2)])) (.e (.int 0))))) [3, 4, 5])))]⟩
/-- 13: lowest_of(limits, notes) -/
def f_lowest_of : Fn := ⟨[false, true], 3, none, [.ret [] (.comp (.n 2) (.r1 (.bin .add (.e (.fld (.v 0) 0 0)) (.e (.int 1)))) [] (.call 12 [.e (.v 0), .p (.s 1), .p (.s 2)]) [2])]⟩
/-- 14: check_notes(limits, notes) -/
def f_check_notes : Fn := ⟨[false, true], 5, none, [.ite [] (.cmp .gt (.e (.b1 .len (.s 1))) (.e (.g 0 (.int (60))))) [.rais 2 [.g 0 (.int (60))]] [], .forl [] (.t [2, 3, 4]) (.sq (.s 1)) [.ite [] (.not (.ch2 .le .le (.e (.int 0)) (.s 2) (.e (.fld (.v 0) 0 0)))) [.rais 1 [.str "moment of a note"]] [], .ite [] (.or (.cmp .gt (.e (.b1 .abs (.s 3))) (.e (.g 1 (.int (1000000000))))) (.cmp .gt (.e (.b1 .abs (.s 4))) (.e (.g 1 (.int (1000000000)))))) [.rais 1 [.str "total of a note"]] [], .ite [] (.cmp .gt (.s 3) (.s 4)) [.rais 4 [.v 3, .v 4]] []]]⟩
/-- 15: apart(limits, first, second) -/
def f_apart : Fn := ⟨[false, true, true], 5, none, [.asgt [] [3, 4] (.mth 0 7 (.v 0) [.p (.e (.ix (.s 1) (.e (.int 0)))), .p (.e (.ix (.s 2) (.e (.int 0))))]), .ret [] (.or (.cmp .gt (.e (.bin .sub (.e (.ix (.s 2) (.e (.int 1)))) (.e (.ix (.s 1) (.e (.int 2)))))) (.s 4)) (.cmp .lt (.e (.bin .sub (.e (.ix (.s 2) (.e (.int 2)))) (.e (.ix (.s 1) (.e (.int 1)))))) (.s 3)))]⟩
/-- 16: found_clash(limits, notes) -/
def f_found_clash : Fn := ⟨[false, true], 4, none, [.forl [] (.n 2) (.r1 (.b1 .len (.s 1))) [.forl [] (.n 3) (.r2 (.bin .add (.s 2) (.e (.int 1))) (.b1 .len (.s 1))) [.ite [] (.v (.e (.call 15 [.e (.v 0), .p (.e (.ix (.s 1) (.s 2))), .p (.e (.ix (.s 1) (.s 3)))]))) [.ret [] (.tup [.v 2, .v 3])] []]], .ret [] .non]⟩
/-- 17: first_clash(limits, notes) -/
def f_first_clash : Fn := ⟨[false, true], 2, none, [.ex [] (.call 14 [.e (.v 0), .p (.s 1)]), .ret [] (.call 16 [.e (.v 0), .p (.s 1)])]⟩
/-- 18: refuse_clash(limits, notes) -/
def f_refuse_clash : Fn := ⟨[false, true], 3, none, [.asg [] 2 (.call 16 [.e (.v 0), .p (.s 1)]), .ite [] (.cmp .notN (.s 2) (.e .non)) [.rais 6 [.ix (.s 2) (.e (.int 0)), .ix (.s 2) (.e (.int 1))]] []]⟩
/-- 19: check_slips(limits, slips) -/
def f_check_slips : Fn := ⟨[false, true], 4, none, [.ite [] (.cmp .gt (.e (.b1 .len (.s 1))) (.e (.g 2 (.int (40))))) [.rais 2 [.g 2 (.int (40))]] [], .forl [] (.t [2, 3]) (.sq (.s 1)) [.ite [] (.not (.ch2 .le .le (.e (.int 0)) (.s 2) (.e (.fld (.v 0) 0 0)))) [.rais 1 [.str "moment of a slip"]] [], .ite [] (.cmp .gt (.e (.b1 .abs (.s 3))) (.e (.g 3 (.int (1000000000))))) [.rais 1 [.str "total of a slip"]] []]]⟩
/-- 20: joinable(limits, first, second) -/
def f_joinable : Fn := ⟨[false, true, true], 5, none, [.asgt [] [3, 4] (.mth 0 7 (.v 0) [.p (.e (.ix (.s 1) (.e (.int 0)))), .p (.e (.ix (.s 2) (.e (.int 0))))]), .ret [] (.ch2 .le .le (.s 3) (.e (.bin .sub (.e (.ix (.s 2) (.e (.int 1)))) (.e (.ix (.s 1) (.e (.int 1)))))) (.s 4))]⟩
/-- 21: in_order(slips) -/
def f_in_order : Fn := ⟨[true], 6, none, [.asg [] 1 (.b1 .sorted (.e (.comp (.n 2) (.r1 (.b1 .len (.s 0))) [] (.tup [.ix (.e (.ix (.s 0) (.s 2))) (.e (.int 0)), .ix (.e (.ix (.s 0) (.s 2))) (.e (.int 1)), .v 2]) [2]))), .ret [] (.comp (.t [3, 4, 5]) (.sq (.s 1)) [] (.v 5) [3, 4, 5])]⟩
/-- 22: of_one_meter(limits, first, second) -/
def f_of_one_meter : Fn := ⟨[false, false, false], 3, none, [.ex [] (.call 19 [.e (.v 0), .p (.e (.lst [.v 1, .v 2]))]), .ret [] (.call 20 [.e (.v 0), .p (.s 1), .p (.s 2)])]⟩
/-- 23: slip_order(limits, slips) -/
def f_slip_order : Fn := ⟨[false, true], 2, none, [.ex [] (.call 19 [.e (.v 0), .p (.s 1)]), .ret [] (.call 21 [.p (.s 1)])]⟩
/-- 24: history_through(limits, slips) -/
def f_history_through : Fn := ⟨[false, true], 5, none, [.ex [] (.call 19 [.e (.v 0), .p (.s 1)]), .ite [] (.not (.v (.s 1))) [.rais 5 [.str "no slip"]] [], .asg [] 2 (.comp (.t [3, 4]) (.sq (.s 1)) [] (.tup [.v 3, .v 4, .v 4]) [3, 4]), .ex [] (.call 18 [.e (.v 0), .p (.s 2)]), .ret [] (.call 13 [.e (.v 0), .p (.s 2)])]⟩
/-- 25: refuse(limits, notes) -/
def f_refuse : Fn := ⟨[false, true], 2, none, [.ex [] (.call 14 [.e (.v 0), .p (.s 1)]), .ite [] (.not (.v (.s 1))) [.rais 5 [.str "no note"]] [], .ex [] (.call 18 [.e (.v 0), .p (.s 1)])]⟩
/-- 26: lowest(limits, notes) -/
def f_lowest : Fn := ⟨[false, true], 2, none, [.ex [] (.call 25 [.e (.v 0), .p (.s 1)]), .ret [] (.call 13 [.e (.v 0), .p (.s 1)])]⟩
/-- 27: law_cell(script, k) -/
def f_law_cell : Fn := ⟨[true, true], 2, none, [.ite [] (.cmp .lt (.s 1) (.e (.b1 .len (.s 0)))) [.ret [] (.ix (.s 0) (.s 1))] [], .ret [] (.int 0)]⟩
/-- 28: law_row(cell, many) -/
def f_law_row : Fn := ⟨[false, false], 5, none, [.asg [] 2 (.lst []), .ite [] (.cmp .ge (.s 0) (.e (.bin .pow (.e (.int 10)) (.e (.int 18))))) [.forl [] (.n 3) (.r1 (.v 1)) [.app [] 2 (.bin .mod (.e (.b1 .int (.s 0))) (.e (.int 1000000))), .asg [] 0 (.bin .fdiv (.s 0) (.e (.int 1000000)))], .reto 2] [], .forl [] (.n 3) (.r1 (.v 1)) [.asg [] 4 (.bin .mod (.e (.b1 .int (.e (.bin .add (.e (.bin .add (.e (.bin .mul (.s 0) (.e (.int 48271)))) (.e (.bin .mul (.s 3) (.e (.int 69621)))))) (.e (.int 4177)))))) (.e (.int 2147483647))), .app [] 2 (.bin .mod (.e (.b1 .int (.e (.bin .add (.e (.bin .add (.e (.bin .mul (.s 4) (.e (.int 16807)))) (.e (.bin .mul (.e (.bin .mul (.s 3) (.s 3))) (.e (.int 7919)))))) (.e (.int 271)))))) (.e (.int 2147483629)))], .reto 2]⟩
/-- 29: law_at(row, at, many) -/
def f_law_at : Fn := ⟨[true, true, false], 3, none, [.ret [] (.bin .mod (.e (.b1 .int (.e (.ix (.s 0) (.s 1))))) (.s 2))]⟩
/-- 30: law_is_whole(value) -/
def f_law_is_whole : Fn := ⟨[true], 1, none, [.ret [] (.and (.isi (.s 0) .int) (.not (.isi (.s 0) .bool)))]⟩
/-- 31: law_rows(row, at, days, top) -/
def f_law_rows : Fn := ⟨[true, false, false, false], 8, none, [.asg [] 4 (.lst []), .asg [] 5 (.int 0), .forl [] (.n 6) (.r1 (.int 4)) [.ite [] (.cmp .lt (.s 5) (.s 2)) [.asg [] 7 (.call 29 [.p (.s 0), .p (.e (.bin .add (.s 1) (.e (.bin .mul (.e (.int 4)) (.s 6))))), .e (.bin .add (.s 3) (.e (.int 1)))]), .ite [] (.cmp .eq (.e (.call 29 [.p (.s 0), .p (.e (.bin .add (.e (.bin .add (.s 1) (.e (.bin .mul (.e (.int 4)) (.s 6))))) (.e (.int 1)))), .e (.int 2)])) (.e (.int 1))) [.asg [] 7 (.int 0)] [], .app [5] 4 (.tup [.v 5, .v 7, .bin .add (.s 7) (.e (.call 29 [.p (.s 0), .p (.e (.bin .add (.e (.bin .add (.s 1) (.e (.bin .mul (.e (.int 4)) (.s 6))))) (.e (.int 2)))), .e (.bin .add (.e (.bin .sub (.s 3) (.s 7))) (.e (.int 1)))]))])] [], .asg [] 5 (.bin .add (.e (.bin .add (.s 5) (.e (.int 1)))) (.e (.call 29 [.p (.s 0), .p (.e (.bin .add (.e (.bin .add (.s 1) (.e (.bin .mul (.e (.int 4)) (.s 6))))) (.e (.int 3)))), .e (.v 2)])))], .reto 4]⟩
/-- 32: law_sums(rows, days, part) -/
def f_law_sums : Fn := ⟨[true, false, true], 7, none, [.asg [] 3 (.lst [.int 0]), .forl [] (.n 4) (.r1 (.v 1)) [.asg [] 5 (.ix (.e (.comp (.n 6) (.sq (.s 0)) [.cmp .le (.e (.ix (.s 6) (.e (.int 0)))) (.s 4)] (.v 6) [6])) (.e (.neg (.int 1)))), .app [] 3 (.bin .add (.e (.ix (.s 3) (.e (.neg (.int 1))))) (.e (.ix (.s 5) (.s 2))))], .reto 3]⟩
/-- 33: law_joined(lows, highs, one, other) -/
def f_law_joined : Fn := ⟨[true, true, true, true], 6, none, [.asg [] 4 (.bin .sub (.e (.ix (.s 0) (.e (.ix (.s 3) (.e (.int 0)))))) (.e (.ix (.s 0) (.e (.ix (.s 2) (.e (.int 0))))))), .asg [] 5 (.bin .sub (.e (.ix (.s 1) (.e (.ix (.s 3) (.e (.int 0)))))) (.e (.ix (.s 1) (.e (.ix (.s 2) (.e (.int 0))))))), .ret [] (.ch2 .le .le (.e (.b2 .min (.s 4) (.s 5))) (.e (.bin .sub (.e (.ix (.s 3) (.e (.int 1)))) (.e (.ix (.s 2) (.e (.int 1)))))) (.e (.b2 .max (.s 4) (.s 5))))]⟩
/-- 34: law_hidden(row, at, lows, highs) -/
def f_law_hidden : Fn := ⟨[true, false, true, true], 10, none, [.asg [] 4 (.bin .sub (.e (.b1 .len (.s 2))) (.e (.int 1))), .asg [] 5 (.bin .sub (.e (.ix (.s 3) (.s 4))) (.e (.ix (.s 2) (.s 4)))), .asg [] 6 (.bin .mul (.e (.ix (.e (.lst [.int 0, .int 0, .int 1000, .neg (.int 1000)])) (.e (.call 29 [.p (.s 0), .p (.s 1), .e (.int 4)])))) (.e (.call 29 [.p (.s 0), .p (.e (.bin .add (.s 1) (.e (.int 1)))), .e (.int 1000000)]))), .asg [] 7 (.lst []), .forl [] (.n 8) (.r1 (.int 3)) [.asg [] 9 (.bin .sub (.e (.bin .sub (.e (.bin .add (.s 6) (.e (.call 29 [.p (.s 0), .p (.e (.bin .add (.e (.bin .add (.s 1) (.e (.int 2)))) (.e (.bin .mul (.e (.int 3)) (.s 8))))), .e (.bin .add (.s 5) (.e (.int 21)))])))) (.e (.int 10)))) (.e (.bin .fdiv (.s 5) (.e (.int 2))))), .app [] 7 (.tup [.v 9, .call 29 [.p (.s 0), .p (.e (.bin .add (.e (.bin .add (.s 1) (.e (.int 3)))) (.e (.bin .mul (.e (.int 3)) (.s 8))))), .e (.bin .add (.s 4) (.e (.int 1)))], .call 29 [.p (.s 0), .p (.e (.bin .add (.e (.bin .add (.s 1) (.e (.int 4)))) (.e (.bin .mul (.e (.int 3)) (.s 8))))), .e (.bin .add (.s 5) (.e (.int 1)))]])], .reto 7]⟩
/-- 35: law_moved(row, at) -/
def f_law_moved : Fn := ⟨[true, false], 3, none, [.asg [] 2 (.call 29 [.p (.s 0), .p (.s 1), .e (.int 9)]), .ite [] (.cmp .eq (.s 2) (.e (.int 4))) [.ret [] (.int 1)] [], .ite [] (.cmp .eq (.s 2) (.e (.int 5))) [.ret [] (.neg (.int 1))] [], .ite [] (.cmp .eq (.s 2) (.e (.int 6))) [.ret [] (.bin .sub (.e (.call 29 [.p (.s 0), .p (.e (.bin .add (.s 1) (.e (.int 1)))), .e (.int 41)])) (.e (.int 20)))] [], .ite [] (.cmp .eq (.s 2) (.e (.int 7))) [.ret [] (.bin .add (.e (.bin .mul (.e (.int 1000)) (.e (.call 29 [.p (.s 0), .p (.e (.bin .add (.s 1) (.e (.int 1)))), .e (.int 1000000)])))) (.e (.call 29 [.p (.s 0), .p (.e (.bin .add (.s 1) (.e (.int 2)))), .e (.int 1001)])))] [], .ite [] (.cmp .eq (.s 2) (.e (.int 8))) [.ret [] (.bin .sub (.e (.bin .mul (.e (.neg (.int 1000))) (.e (.call 29 [.p (.s 0), .p (.e (.bin .add (.s 1) (.e (.int 1)))), .e (.int 1000000)])))) (.e (.call 29 [.p (.s 0), .p (.e (.bin .add (.s 1) (.e (.int 2)))), .e (.int 1001)])))] [], .ret [] (.int 0)]⟩
/-- 36: law_slips(row, count, lows, highs, hidden, movers) -/
def f_law_slips : Fn := ⟨[true, false, true, true, true, true], 12, none, [.asg [] 6 (.lst []), .forl [] (.n 7) (.r1 (.v 1)) [.asg [] 8 (.call 29 [.p (.s 0), .p (.e (.bin .mul (.e (.int 5)) (.s 7))), .e (.b1 .len (.s 2))]), .asg [] 9 (.ix (.s 4) (.e (.call 29 [.p (.s 0), .p (.e (.bin .add (.e (.bin .mul (.e (.int 5)) (.s 7))) (.e (.int 1)))), .e (.b1 .len (.s 4))]))), .asg [] 10 (.bin .add (.e (.bin .sub (.e (.bin .sub (.e (.ix (.s 3) (.s 8))) (.e (.ix (.s 2) (.s 8))))) (.e (.ix (.s 3) (.e (.ix (.s 9) (.e (.int 1)))))))) (.e (.ix (.s 2) (.e (.ix (.s 9) (.e (.int 1))))))), .asg [] 11 (.bin .add (.e (.bin .add (.e (.ix (.s 9) (.e (.int 0)))) (.e (.ix (.s 2) (.s 8))))) (.e (.b2 .max (.e (.int 0)) (.e (.b2 .min (.s 10) (.e (.ix (.s 9) (.e (.int 2))))))))), .ite [] (.cmp .isin (.s 7) (.s 5)) [.asg [] 11 (.bin .add (.s 11) (.e (.call 35 [.p (.s 0), .e (.bin .add (.e (.bin .mul (.e (.int 5)) (.s 7))) (.e (.int 2)))])))] [], .app [] 6 (.tup [.v 8, .b2 .max (.e (.neg (.int 1000000000))) (.e (.b2 .min (.e (.int 1000000000)) (.s 11)))])], .reto 6]⟩
/-- 37: law_pairs(limits, lows, highs, slips) -/
def f_law_pairs : Fn := ⟨[false, true, true, true], 8, none, [.asg [] 4 (.bin .add (.e (.int 1)) (.e (.bin .fdiv (.e (.b1 .len (.s 3))) (.e (.int 10))))), .forl [] (.n 5) (.r1 (.b1 .len (.s 3))) [.forl [] (.n 6) (.r3 (.bin .mod (.s 5) (.s 4)) (.b1 .len (.s 3)) (.v 4)) [.asg [] 7 (.call 22 [.e (.v 0), .e (.ix (.s 3) (.s 5)), .e (.ix (.s 3) (.s 6))]), .ite [] (.or (.not (.v (.e (.isi (.s 7) .bool)))) (.cmp .ne (.s 7) (.e (.call 33 [.p (.s 1), .p (.s 2), .p (.e (.ix (.s 3) (.s 5))), .p (.e (.ix (.s 3) (.s 6)))])))) [.ret [] (.bl false)] []]], .ret [] (.bl true)]⟩
/-- 38: law_order(limits, slips) -/
def f_law_order : Fn := ⟨[false, true], 7, none, [.asg [] 2 (.b1 .sorted (.e (.comp (.n 3) (.r1 (.b1 .len (.s 1))) [] (.tup [.ix (.e (.ix (.s 1) (.s 3))) (.e (.int 0)), .ix (.e (.ix (.s 1) (.s 3))) (.e (.int 1)), .v 3]) [3]))), .asg [] 4 (.comp (.n 5) (.sq (.s 2)) [] (.ix (.s 5) (.e (.int 2))) [5]), .asg [] 6 (.call 23 [.e (.v 0), .p (.s 1)]), .ite [] (.or (.not (.v (.e (.isi (.s 6) .lst)))) (.cmp .ne (.e (.b1 .len (.s 6))) (.e (.b1 .len (.s 4))))) [.ret [] (.bl false)] [], .forl [] (.n 3) (.r1 (.b1 .len (.s 4))) [.ite [] (.or (.not (.v (.e (.call 30 [.p (.e (.ix (.s 6) (.s 3)))])))) (.cmp .ne (.e (.ix (.s 6) (.s 3))) (.e (.ix (.s 4) (.s 3))))) [.ret [] (.bl false)] []], .app [] 6 (.neg (.int 1)), .ret [] (.cmp .eq (.e (.call 23 [.e (.v 0), .p (.s 1)])) (.s 4))]⟩
/-- 39: law_apart(lows, highs, slips) -/
def f_law_apart : Fn := ⟨[true, true, true], 5, none, [.forl [] (.n 3) (.r1 (.b1 .len (.s 2))) [.forl [] (.n 4) (.r2 (.bin .add (.s 3) (.e (.int 1))) (.b1 .len (.s 2))) [.ite [] (.not (.v (.e (.call 33 [.p (.s 0), .p (.s 1), .p (.e (.ix (.s 2) (.s 3))), .p (.e (.ix (.s 2) (.s 4)))])))) [.ret [] (.tup [.v 3, .v 4])] []]], .ret [] .non]⟩
/-- 40: law_through(limits, slips) -/
def f_law_through : Fn := ⟨[false, true], 3, none, [.try [.ret [] (.tup [.str "history", .call 24 [.e (.v 0), .p (.s 1)]])] [(5, none, [.ret [] (.tup [.str "empty", .non])]), (6, some 2, [.ret [] (.tup [.str "clash", .tup [.xf 2 6 0, .xf 2 6 1]])]), (0, none, [.ret [] (.tup [.str "other", .non])])]]⟩
/-- 41: law_history(limits, lows, highs, slips) -/
def f_law_history : Fn := ⟨[false, true, true, true], 10, none, [.asg [] 4 (.call 39 [.p (.s 1), .p (.s 2), .p (.s 3)]), .asg [] 5 (.comp (.n 6) (.sq (.s 3)) [] (.tup [.ix (.s 6) (.e (.int 0)), .ix (.s 6) (.e (.int 1)), .ix (.s 6) (.e (.int 1))]) [6]), .asg [] 7 (.call 40 [.e (.v 0), .p (.s 3)]), .ite [] (.cmp .ne (.e (.call 17 [.e (.v 0), .p (.e (.b1 .lst (.s 5)))])) (.s 4)) [.ret [] (.bl false)] [], .ite [] (.not (.v (.s 3))) [.ret [] (.cmp .eq (.s 7) (.e (.tup [.str "empty", .non])))] [], .ite [] (.cmp .notN (.s 4) (.e .non)) [.ret [] (.cmp .eq (.s 7) (.e (.tup [.str "clash", .v 4])))] [], .ite [] (.or (.cmp .ne (.e (.ix (.s 7) (.e (.int 0)))) (.e (.str "history"))) (.or (.not (.v (.e (.isi (.e (.ix (.s 7) (.e (.int 1)))) .lst)))) (.cmp .ne (.e (.b1 .len (.e (.ix (.s 7) (.e (.int 1)))))) (.e (.b1 .len (.s 1)))))) [.ret [] (.bl false)] [], .forl [] (.n 8) (.r1 (.b1 .len (.s 1))) [.asg [] 9 (.b1 .max (.e (.comp (.n 6) (.sq (.s 3)) [] (.bin .add (.e (.ix (.s 6) (.e (.int 1)))) (.e (.b2 .min (.e (.bin .sub (.e (.ix (.s 1) (.s 8))) (.e (.ix (.s 1) (.e (.ix (.s 6) (.e (.int 0)))))))) (.e (.bin .sub (.e (.ix (.s 2) (.s 8))) (.e (.ix (.s 2) (.e (.ix (.s 6) (.e (.int 0))))))))))) [6]))), .ite [] (.or (.not (.v (.e (.call 30 [.p (.e (.ix (.e (.ix (.s 7) (.e (.int 1)))) (.s 8)))])))) (.cmp .ne (.e (.ix (.e (.ix (.s 7) (.e (.int 1)))) (.s 8))) (.s 9))) [.ret [] (.bl false)] []], .ret [] (.cmp .eq (.e (.ix (.s 7) (.e (.int 1)))) (.e (.call 26 [.e (.v 0), .p (.s 5)])))]⟩
/-- 42: law_other(days, slips) -/
def f_law_other : Fn := ⟨[false, true], 5, none, [.asg [] 2 (.mk 4 [.e (.v 0), .p (.e (.lst [.tup [.int 0, .int 0, .int 0]]))]), .forl [] (.n 3) (.r1 (.b2 .min (.e (.int 4)) (.e (.b1 .len (.s 1))))) [.asg [] 4 (.call 22 [.e (.v 2), .e (.ix (.s 1) (.e (.int 0))), .e (.ix (.s 1) (.s 3))]), .ite [] (.or (.not (.v (.e (.isi (.s 4) .bool)))) (.cmp .ne (.s 4) (.e (.cmp .eq (.e (.ix (.e (.ix (.s 1) (.e (.int 0)))) (.e (.int 1)))) (.e (.ix (.e (.ix (.s 1) (.s 3))) (.e (.int 1)))))))) [.ret [] (.bl false)] []], .ret [] (.bl true)]⟩
/-- 43: law(script) -/
def f_law : Fn := ⟨[true], 14, none, [.asg [] 1 (.call 28 [.e (.call 27 [.p (.s 0), .p (.e (.int 0))]), .e (.int 40)]), .asg [] 2 (.call 28 [.e (.bin .add (.e (.call 27 [.p (.s 0), .p (.e (.int 1))])) (.e (.bin .mul (.e (.int 977)) (.e (.call 27 [.p (.s 0), .p (.e (.int 0))]))))), .e (.int 200)]), .asg [] 3 (.bin .add (.e (.call 29 [.p (.s 1), .p (.e (.int 0)), .e (.int 30)])) (.e (.int 1))), .asg [] 4 (.call 29 [.p (.s 1), .p (.e (.int 1)), .e (.int 10)]), .ite [] (.cmp .eq (.e (.call 29 [.p (.s 1), .p (.e (.int 2)), .e (.int 8)])) (.e (.int 3))) [.asg [] 3 (.int 400)] [], .ite [] (.cmp .eq (.e (.call 29 [.p (.s 1), .p (.e (.int 2)), .e (.int 8)])) (.e (.int 5))) [.asg [] 4 (.int 40)] [], .asg [] 5 (.call 31 [.p (.s 1), .e (.int 3), .e (.v 3), .e (.ix (.e (.lst [.int 1, .int 9, .int 1000, .int 1000000])) (.e (.call 29 [.p (.s 1), .p (.e (.int 19)), .e (.int 4)])))]), .asg [] 6 (.call 32 [.p (.s 5), .e (.v 3), .p (.e (.int 1))]), .asg [] 7 (.call 32 [.p (.s 5), .e (.v 3), .p (.e (.int 2))]), .asg [] 8 (.mk 4 [.e (.v 3), .p (.s 5)]), .asg [] 9 (.call 34 [.p (.s 1), .e (.int 20), .p (.s 6), .p (.s 7)]), .asg [] 10 (.lrg (.v 4)), .asg [] 11 (.call 29 [.p (.s 1), .p (.e (.int 31)), .e (.int 4)]), .ite [] (.cmp .lt (.s 11) (.e (.int 2))) [.asg [] 9 (.sl (.s 9) none (some (.int 1))), .asg [] 10 (.sl (.e (.lst [.call 29 [.p (.s 1), .p (.e (.int 32)), .e (.int 10)]])) none (some (.v 11)))] [], .asg [] 12 (.call 36 [.p (.s 2), .e (.v 4), .p (.s 6), .p (.s 7), .p (.s 9), .p (.s 10)]), .asg [] 13 (.b1 .lst (.s 12)), .ite [] (.or (.cmp .notN (.e (.call 19 [.e (.v 8), .p (.s 12)])) (.e .non)) (.not (.v (.e (.call 37 [.e (.v 8), .p (.s 6), .p (.s 7), .p (.s 12)]))))) [.ret [] (.bl false)] [], .ite [] (.or (.not (.v (.e (.call 38 [.e (.v 8), .p (.s 12)])))) (.or (.not (.v (.e (.call 41 [.e (.v 8), .p (.s 6), .p (.s 7), .p (.s 12)])))) (.not (.v (.e (.call 42 [.e (.v 3), .p (.s 12)])))))) [.ret [] (.bl false)] [], .ite [] (.or (.cmp .ne (.s 12) (.s 13)) (.not (.v (.e (.call 37 [.e (.v 8), .p (.s 6), .p (.s 7), .p (.e (.sl (.s 12) none (some (.int 4))))]))))) [.ret [] (.bl false)] [], .ite [] (.v (.s 12)) [.seti [] 12 (.int 0) (.tup [.v 3, .int 7])] [], .ret [] (.and (.call 38 [.e (.v 8), .p (.s 12)]) (.call 41 [.e (.v 8), .p (.s 6), .p (.s 7), .p (.e (.sl (.s 12) (some (.neg (.int 5))) none))]))]⟩
def fns0 : List FnI := [
  ⟨"check_rows", .glo, ["days", "rows"], ["days", "rows", "last", "day", "low", "high"], f_check_rows⟩,
  ⟨"by_day", .glo, ["days", "rows", "part"], ["days", "rows", "part", "found", "k", "end", "_"], f_by_day⟩,
  ⟨"sums_of", .glo, ["numbers"], ["numbers", "sums", "number"], f_sums_of⟩,
  ⟨"shortest_rows", .glo, ["lows", "highs"], ["lows", "highs", "rows", "day"], f_shortest_rows⟩,
  ⟨"__init__", (.ini 0), ["self", "days", "rows"], ["self", "days", "rows"], f_Limits_init⟩,
  ⟨"least", (.meth 0), ["self", "day"], ["self", "day"], f_Limits_least⟩,
  ⟨"most", (.meth 0), ["self", "day"], ["self", "day"], f_Limits_most⟩,
  ⟨"reach", (.meth 0), ["self", "i", "j"], ["self", "i", "j", "low", "high"], f_Limits_reach⟩,
  ⟨"rows", (.meth 0), ["self"], ["self"], f_Limits_rows⟩,
  ⟨"part", (.meth 0), ["self", "i", "j"], ["self", "i", "j"], f_Limits_part⟩,
  ⟨"pinned", (.meth 0), ["self", "day", "least", "most"], ["self", "day", "least", "most"], f_Limits_pinned⟩,
  ⟨"_wall", .glo, ["k"], ["k"], f_wall⟩,
  ⟨"lowest_at", .glo, ["limits", "notes", "moment"], ["limits", "notes", "moment", "at", "low", "high"], f_lowest_at⟩,
  ⟨"lowest_of", .glo, ["limits", "notes"], ["limits", "notes", "moment"], f_lowest_of⟩,
  ⟨"check_notes", .glo, ["limits", "notes"], ["limits", "notes", "moment", "low", "high"], f_check_notes⟩,
  ⟨"apart", .glo, ["limits", "first", "second"], ["limits", "first", "second", "low", "high"], f_apart⟩,
  ⟨"found_clash", .glo, ["limits", "notes"], ["limits", "notes", "i", "j"], f_found_clash⟩,
  ⟨"first_clash", .glo, ["limits", "notes"], ["limits", "notes"], f_first_clash⟩,
  ⟨"refuse_clash", .glo, ["limits", "notes"], ["limits", "notes", "pair"], f_refuse_clash⟩,
  ⟨"check_slips", .glo, ["limits", "slips"], ["limits", "slips", "moment", "total"], f_check_slips⟩,
  ⟨"joinable", .glo, ["limits", "first", "second"], ["limits", "first", "second", "low", "high"], f_joinable⟩,
  ⟨"in_order", .glo, ["slips"], ["slips", "rows", "k", "moment", "total", "position"], f_in_order⟩,
  ⟨"of_one_meter", .glo, ["limits", "first", "second"], ["limits", "first", "second"], f_of_one_meter⟩,
  ⟨"slip_order", .glo, ["limits", "slips"], ["limits", "slips"], f_slip_order⟩,
  ⟨"history_through", .glo, ["limits", "slips"], ["limits", "slips", "notes", "moment", "total"], f_history_through⟩,
  ⟨"refuse", .glo, ["limits", "notes"], ["limits", "notes"], f_refuse⟩,
  ⟨"lowest", .glo, ["limits", "notes"], ["limits", "notes"], f_lowest⟩,
  ⟨"_law_cell", .glo, ["script", "k"], ["script", "k"], f_law_cell⟩,
  ⟨"_law_row", .glo, ["cell", "many"], ["cell", "many", "row", "k", "mixed"], f_law_row⟩,
  ⟨"_law_at", .glo, ["row", "at", "many"], ["row", "at", "many"], f_law_at⟩,
  ⟨"_law_is_whole", .glo, ["value"], ["value"], f_law_is_whole⟩,
  ⟨"_law_rows", .glo, ["row", "at", "days", "top"], ["row", "at", "days", "top", "rows", "day", "k", "least"], f_law_rows⟩,
  ⟨"_law_sums", .glo, ["rows", "days", "part"], ["rows", "days", "part", "sums", "day", "last", "one"], f_law_sums⟩,
  ⟨"_law_joined", .glo, ["lows", "highs", "one", "other"], ["lows", "highs", "one", "other", "a", "b"], f_law_joined⟩,
  ⟨"_law_hidden", .glo, ["row", "at", "lows", "highs"], ["row", "at", "lows", "highs", "days", "wide", "begin", "hidden", "k", "start"], f_law_hidden⟩,
  ⟨"_law_moved", .glo, ["row", "at"], ["row", "at", "kind"], f_law_moved⟩,
  ⟨"_law_slips", .glo, ["row", "count", "lows", "highs", "hidden", "movers"], ["row", "count", "lows", "highs", "hidden", "movers", "slips", "k", "moment", "one", "slack", "total"], f_law_slips⟩,
  ⟨"_law_pairs", .glo, ["limits", "lows", "highs", "slips"], ["limits", "lows", "highs", "slips", "step", "i", "j", "told"], f_law_pairs⟩,
  ⟨"_law_order", .glo, ["limits", "slips"], ["limits", "slips", "ranked", "k", "due", "one", "told"], f_law_order⟩,
  ⟨"_law_apart", .glo, ["lows", "highs", "slips"], ["lows", "highs", "slips", "i", "j"], f_law_apart⟩]
def fns1 : List FnI := [
  ⟨"_law_through", .glo, ["limits", "slips"], ["limits", "slips", "e"], f_law_through⟩,
  ⟨"_law_history", .glo, ["limits", "lows", "highs", "slips"], ["limits", "lows", "highs", "slips", "pair", "notes", "one", "told", "m", "due"], f_law_history⟩,
  ⟨"_law_other", .glo, ["days", "slips"], ["days", "slips", "still", "k", "told"], f_law_other⟩,
  ⟨"law", .glo, ["script"], ["script", "row", "more", "days", "count", "rows", "lows", "highs", "limits", "hidden", "movers", "mode", "slips", "kept"], f_law⟩]
def T : Tab := ⟨fns0 ++ fns1, [⟨"Limits", ["days", "_lows", "_highs", "_low_sums", "_high_sums"], 4⟩], [⟨"MeterError", [], 0⟩, ⟨"OutOfRange", [], 0⟩, ⟨"TooMany", ["limit"], 44⟩, ⟨"BadOrder", [], 0⟩, ⟨"BadSpan", ["low", "high"], 45⟩, ⟨"Empty", [], 0⟩, ⟨"Clash", ["first", "second"], 46⟩], [("MOST_NOTES", .inl (60)), ("MOST_SIZE", .inl (1000000000)), ("MOST_SLIPS", .inl (40)), ("MOST_SLIP_TOTAL", .inl (1000000000)), ("MOST_DAYS", .inl (400)), ("MOST_USE", .inl (1000000))]⟩
def ds0 : List He.DefD := [
  ⟨("check_rows", none), "check_rows", "check_rows", defArgs (top 33), defBody (top 33), defScope (top 33), [], []⟩,
  ⟨("by_day", none), "by_day", "by_day", defArgs (top 34), defBody (top 34), defScope (top 34), [], []⟩,
  ⟨("sums_of", none), "sums_of", "sums_of", defArgs (top 35), defBody (top 35), defScope (top 35), [], []⟩,
  ⟨("shortest_rows", none), "shortest_rows", "shortest_rows", defArgs (top 36), defBody (top 36), defScope (top 36), [], []⟩,
  ⟨("Limits", some "__init__"), "__init__", "Limits.__init__", defArgs (memb (top 37) 0), defBody (memb (top 37) 0), defScope (memb (top 37) 0), [], []⟩,
  ⟨("Limits", some "least"), "least", "Limits.least", defArgs (memb (top 37) 1), defBody (memb (top 37) 1), defScope (memb (top 37) 1), [], []⟩,
  ⟨("Limits", some "most"), "most", "Limits.most", defArgs (memb (top 37) 2), defBody (memb (top 37) 2), defScope (memb (top 37) 2), [], []⟩,
  ⟨("Limits", some "reach"), "reach", "Limits.reach", defArgs (memb (top 37) 3), defBody (memb (top 37) 3), defScope (memb (top 37) 3), [], []⟩,
  ⟨("Limits", some "rows"), "rows", "Limits.rows", defArgs (memb (top 37) 4), defBody (memb (top 37) 4), defScope (memb (top 37) 4), [], []⟩,
  ⟨("Limits", some "part"), "part", "Limits.part", defArgs (memb (top 37) 5), defBody (memb (top 37) 5), defScope (memb (top 37) 5), [], []⟩,
  ⟨("Limits", some "pinned"), "pinned", "Limits.pinned", defArgs (memb (top 37) 6), defBody (memb (top 37) 6), defScope (memb (top 37) 6), [], []⟩,
  ⟨("_wall", none), "_wall", "_wall", defArgs (top 0), defBody (top 0), defScope (top 0), [], []⟩,
  ⟨("lowest_at", none), "lowest_at", "lowest_at", defArgs (top 10), defBody (top 10), defScope (top 10), [], []⟩,
  ⟨("lowest_of", none), "lowest_of", "lowest_of", defArgs (top 11), defBody (top 11), defScope (top 11), [], []⟩,
  ⟨("check_notes", none), "check_notes", "check_notes", defArgs (top 15), defBody (top 15), defScope (top 15), [], []⟩,
  ⟨("apart", none), "apart", "apart", defArgs (top 17), defBody (top 17), defScope (top 17), [], []⟩,
  ⟨("found_clash", none), "found_clash", "found_clash", defArgs (top 18), defBody (top 18), defScope (top 18), [], []⟩,
  ⟨("first_clash", none), "first_clash", "first_clash", defArgs (top 19), defBody (top 19), defScope (top 19), [], []⟩,
  ⟨("refuse_clash", none), "refuse_clash", "refuse_clash", defArgs (top 20), defBody (top 20), defScope (top 20), [], []⟩,
  ⟨("check_slips", none), "check_slips", "check_slips", defArgs (top 24), defBody (top 24), defScope (top 24), [], []⟩,
  ⟨("joinable", none), "joinable", "joinable", defArgs (top 25), defBody (top 25), defScope (top 25), [], []⟩,
  ⟨("in_order", none), "in_order", "in_order", defArgs (top 26), defBody (top 26), defScope (top 26), [], []⟩,
  ⟨("of_one_meter", none), "of_one_meter", "of_one_meter", defArgs (top 27), defBody (top 27), defScope (top 27), [], []⟩,
  ⟨("slip_order", none), "slip_order", "slip_order", defArgs (top 28), defBody (top 28), defScope (top 28), [], []⟩,
  ⟨("history_through", none), "history_through", "history_through", defArgs (top 29), defBody (top 29), defScope (top 29), [], []⟩,
  ⟨("refuse", none), "refuse", "refuse", defArgs (top 39), defBody (top 39), defScope (top 39), [], []⟩,
  ⟨("lowest", none), "lowest", "lowest", defArgs (top 40), defBody (top 40), defScope (top 40), [], []⟩,
  ⟨("_law_cell", none), "_law_cell", "_law_cell", defArgs (top 42), defBody (top 42), defScope (top 42), [], []⟩,
  ⟨("_law_row", none), "_law_row", "_law_row", defArgs (top 43), defBody (top 43), defScope (top 43), [], []⟩,
  ⟨("_law_at", none), "_law_at", "_law_at", defArgs (top 44), defBody (top 44), defScope (top 44), [], []⟩,
  ⟨("_law_is_whole", none), "_law_is_whole", "_law_is_whole", defArgs (top 45), defBody (top 45), defScope (top 45), [], []⟩,
  ⟨("_law_rows", none), "_law_rows", "_law_rows", defArgs (top 46), defBody (top 46), defScope (top 46), [], []⟩,
  ⟨("_law_sums", none), "_law_sums", "_law_sums", defArgs (top 47), defBody (top 47), defScope (top 47), [], []⟩,
  ⟨("_law_joined", none), "_law_joined", "_law_joined", defArgs (top 48), defBody (top 48), defScope (top 48), [], []⟩,
  ⟨("_law_hidden", none), "_law_hidden", "_law_hidden", defArgs (top 49), defBody (top 49), defScope (top 49), [], []⟩,
  ⟨("_law_moved", none), "_law_moved", "_law_moved", defArgs (top 50), defBody (top 50), defScope (top 50), [], []⟩,
  ⟨("_law_slips", none), "_law_slips", "_law_slips", defArgs (top 51), defBody (top 51), defScope (top 51), [], []⟩,
  ⟨("_law_pairs", none), "_law_pairs", "_law_pairs", defArgs (top 52), defBody (top 52), defScope (top 52), [], []⟩,
  ⟨("_law_order", none), "_law_order", "_law_order", defArgs (top 53), defBody (top 53), defScope (top 53), [], []⟩,
  ⟨("_law_apart", none), "_law_apart", "_law_apart", defArgs (top 54), defBody (top 54), defScope (top 54), [], []⟩]
def ds1 : List He.DefD := [
  ⟨("_law_through", none), "_law_through", "_law_through", defArgs (top 55), defBody (top 55), defScope (top 55), [], []⟩,
  ⟨("_law_history", none), "_law_history", "_law_history", defArgs (top 56), defBody (top 56), defScope (top 56), [], []⟩,
  ⟨("_law_other", none), "_law_other", "_law_other", defArgs (top 57), defBody (top 57), defScope (top 57), [], []⟩,
  ⟨("law", none), "law", "law", defArgs (top 58), defBody (top 58), defScope (top 58), [], []⟩,
  ⟨("TooMany", some "__init__"), "__init__", "TooMany.__init__", defArgs (memb (top 4) 0), defBody (memb (top 4) 0), defScope (memb (top 4) 0), [], []⟩,
  ⟨("BadSpan", some "__init__"), "__init__", "BadSpan.__init__", defArgs (memb (top 6) 0), defBody (memb (top 6) 0), defScope (memb (top 6) 0), [], []⟩,
  ⟨("Clash", some "__init__"), "__init__", "Clash.__init__", defArgs (memb (top 8) 0), defBody (memb (top 8) 0), defScope (memb (top 8) 0), [], []⟩]
def ds : List He.DefD := ds0 ++ ds1
end PL.K22
namespace PL.K22
open PySem PySem.Spec PyProof.Rows L2
theorem fits : progB T 400 ds = true := by kernel_rfl
end PL.K22
namespace PL.K22
open PySem PySem.Spec PyProof.Rows L2
abbrev R : PySem.W.OpenRow := PySem.W.OpenLaw.row PySem.Challenge.rw_dialhouse_k22_slips_of_one_meter
abbrev hk : PySem.W.Hook := hookP 6 T ds
def ob (s : PySem.W.SharedT) : AlP := obsPG 6 T ds (HandSHeadRun.getT s)
theorem ob_eq (s : PySem.W.SharedT) : ob s = hk.obs s.abs := obsPG_eq (HandSHeadRun.getT_eq s)
def names0 : List Str := ["_wall", "MeterError", "OutOfRange", "TooMany", "BadOrder", "BadSpan", "Empty", "Clash", "lowest_at", "lowest_of", "MOST_NOTES", "MOST_SIZE", "check_notes", "apart", "found_clash", "first_clash", "refuse_clash", "MOST_SLIPS", "MOST_SLIP_TOTAL", "check_slips", "joinable", "in_order", "of_one_meter", "slip_order", "history_through", "MOST_DAYS", "MOST_USE", "check_rows", "by_day", "sums_of"]
def names1 : List Str := ["shortest_rows", "Limits", "refuse", "lowest", "_law_cell", "_law_row", "_law_at", "_law_is_whole", "_law_rows", "_law_sums", "_law_joined", "_law_hidden", "_law_moved", "_law_slips", "_law_pairs", "_law_order", "_law_apart", "_law_through", "_law_history", "_law_other"]
def names : List Str := names0 ++ names1
theorem run (w : World) : HandSHeadRun.RunEq R (PySem.W.view R.prog [58]) hk ob 8000 names w := by
  intro os
  kernel_rfl
end PL.K22
set_option linter.all false
set_option Elab.async false
set_option maxRecDepth 100000
set_option maxHeartbeats 1000000
/-! The plain law of k05 (under way). -/
namespace PL.K22
open PySem (Str)
abbrev S8 (k : Nat) : Ctx := ⟨sem (tblOf T) 0 k, 0⟩
theorem sem_f (k f : Nat) (fi : FnI) (e : T.fns[f]? = some fi) : sem (tblOf T) 0 (k + 1) f = runFn fi.fn (S8 k) := sem_succ e k
/-- a row: its day, its low, its high -/
abbrev Rw := Int × Int × Int
def rowD (r : Rw) : D := .tup [.int r.1, .int r.2.1, .int r.2.2]
/-! ### check_rows -/
def okRow (days last : Int) (r : Rw) : Prop := ¬ ((last < 0 ∧ r.1 ≠ 0) ∨ r.1 ≤ last ∨ days ≤ r.1)
def okUse (r : Rw) : Prop := 0 ≤ r.2.1 ∧ r.2.1 ≤ r.2.2 ∧ r.2.2 ≤ 1000000
instance (days last : Int) (r : Rw) : Decidable (okRow days last r) := by unfold okRow; infer_instance
instance (r : Rw) : Decidable (okUse r) := by unfold okUse; infer_instance
/-- which error the rows bring -/
def chk (days : Int) : Int → List Rw → Option Nat
  | _, [] => none
  | last, r :: rs => if okRow days last r then (if okUse r then chk days r.1 rs else some 1) else some 3
def chkBody : List S := [.ite [] (.or (.and (.cmp .lt (.s 2) (.e (.int 0))) (.cmp .ne (.s 3) (.e (.int 0)))) (.or (.cmp .le (.s 3) (.s 2)) (.cmp .ge (.s 3) (.s 0)))) [.rais 3 [.str "days of the rows"]] [], .ite [] (.not (.ch3 .le .le .le (.e (.int 0)) (.s 4) (.s 5) (.e (.g 5 (.int (1000000)))))) [.rais 1 [.str "limits of a row"]] [], .asg [] 2 (.v 3)]
theorem chk_step (c : Ctx) (days last : Int) (l : Sl) (r : Rw) :
    (okRow days last r ∧ okUse r ∧ exss c chkBody [.val (.int days), l, .val (.int last), .val (.int r.1), .val (.int r.2.1), .val (.int r.2.2)] = .nx [.val (.int days), l, .val (.int r.1), .val (.int r.1), .val (.int r.2.1), .val (.int r.2.2)]) ∨
    (okRow days last r ∧ ¬ okUse r ∧ ∃ fs e, exss c chkBody [.val (.int days), l, .val (.int last), .val (.int r.1), .val (.int r.2.1), .val (.int r.2.2)] = .err 1 fs e) ∨
    (¬ okRow days last r ∧ ∃ fs e, exss c chkBody [.val (.int days), l, .val (.int last), .val (.int r.1), .val (.int r.2.1), .val (.int r.2.2)] = .err 3 fs e) := by
  obtain ⟨d, lo, hi⟩ := r
  have t1 : tv c (.or (.and (.cmp .lt (.s 2) (.e (.int 0))) (.cmp .ne (.s 3) (.e (.int 0)))) (.or (.cmp .le (.s 3) (.s 2)) (.cmp .ge (.s 3) (.s 0)))) [.val (.int days), l, .val (.int last), .val (.int d), .val (.int lo), .val (.int hi)] = .ok (!decide (okRow days last (d, lo, hi))) := by
    simp only [tv, po, peek, ev, List.getElem?_cons_zero, List.getElem?_cons_succ, Res.bind_ok, Vl.d_val, cmp_lt, cmp_ne, cmp_le, cmp_ge]
    unfold okRow
    by_cases h2 : d = 0
    · subst h2
      by_cases h1 : last < 0 <;> by_cases h3 : 0 ≤ last <;> by_cases h4 : days ≤ 0 <;> simp [h1, h3, h4] <;> omega
    · by_cases h1 : last < 0 <;> by_cases h3 : d ≤ last <;> by_cases h4 : days ≤ d <;> simp [h1, h2, h3, h4]
  have t2 : tv c (.not (.ch3 .le .le .le (.e (.int 0)) (.s 4) (.s 5) (.e (.g 5 (.int (1000000)))))) [.val (.int days), l, .val (.int last), .val (.int d), .val (.int lo), .val (.int hi)] = .ok (!decide (okUse (d, lo, hi))) := by
    simp only [tv, po, peek, ev, List.getElem?_cons_zero, List.getElem?_cons_succ, Res.bind_ok, Vl.d_val, cmp_le]
    unfold okUse
    by_cases h1 : 0 ≤ lo
    · by_cases h2 : lo ≤ hi
      · by_cases h3 : hi ≤ 1000000 <;> simp [h1, h2, h3]
      · simp [h1, h2]
    · simp [h1]
  by_cases a : okRow days last (d, lo, hi)
  · rw [decide_eq_true a] at t1
    by_cases b : okUse (d, lo, hi)
    · rw [decide_eq_true b] at t2
      refine .inl ⟨a, b, ?_⟩
      unfold chkBody
      simp only [exss, exs, frz, List.foldl_nil, t1, t2, Bool.not_true, Res.to_ok, Bool.false_eq_true, if_false, Out.seq_nx, ev, getv, List.getElem?_cons_zero, List.getElem?_cons_succ, Vl.sl_val, List.set_cons_zero, List.set_cons_succ]
    · rw [decide_eq_false b] at t2
      refine .inr (.inl ⟨a, b, [.str "limits of a row"], [.val (.int days), l, .val (.int last), .val (.int d), .val (.int lo), .val (.int hi)], ?_⟩)
      unfold chkBody
      simp only [exss, exs, frz, List.foldl_nil, t1, t2, Bool.not_true, Bool.not_false, Res.to_ok, Bool.false_eq_true, if_false, if_true, Out.seq_nx, evs, ev, Res.bind_ok, Vl.d_val, Out.seq_err]
  · rw [decide_eq_false a] at t1
    refine .inr (.inr ⟨a, [.str "days of the rows"], [.val (.int days), l, .val (.int last), .val (.int d), .val (.int lo), .val (.int hi)], ?_⟩)
    unfold chkBody
    simp only [exss, exs, frz, List.foldl_nil, t1, Bool.not_false, Res.to_ok, if_true, evs, ev, Res.bind_ok, Vl.d_val, Out.seq_err]
theorem chk_loop (c : Ctx) (days : Int) (l : Sl) : ∀ (rs : List Rw) (last : Int) (s3 s4 s5 : Sl),
    (chk days last rs = none ∧ ∃ e, forLoop (.t [3, 4, 5]) (exss c chkBody) (rs.map rowD) [.val (.int days), l, .val (.int last), s3, s4, s5] = .nx e) ∨
    ∃ k, chk days last rs = some k ∧ ∃ fs e, forLoop (.t [3, 4, 5]) (exss c chkBody) (rs.map rowD) [.val (.int days), l, .val (.int last), s3, s4, s5] = .err k fs e
  | [], last, s3, s4, s5 => .inl ⟨rfl, _, rfl⟩
  | r :: rs, last, s3, s4, s5 => by
    have e : setT (.t [3, 4, 5]) (rowD r) [.val (.int days), l, .val (.int last), s3, s4, s5] = some [.val (.int days), l, .val (.int last), .val (.int r.1), .val (.int r.2.1), .val (.int r.2.2)] := rfl
    rw [List.map_cons]
    simp only [forLoop, e, chk]
    rcases chk_step c days last l r with ⟨a, b, q⟩ | ⟨a, b, fs, e2, q⟩ | ⟨a, fs, e2, q⟩
    · rw [if_pos a, if_pos b]
      simp only [q]
      exact chk_loop c days l rs r.1 _ _ _
    · rw [if_pos a, if_neg b]
      simp only [q]
      exact .inr ⟨1, rfl, fs, e2, rfl⟩
    · rw [if_neg a]
      simp only [q]
      exact .inr ⟨3, rfl, fs, e2, rfl⟩
/-- what check_rows says -/
def chkAll (days : Int) (rs : List Rw) : Option Nat := if rs = [] then some 3 else chk days (-1) rs
theorem check_ok (c : Ctx) (days : Int) (rs : List Rw) : (chkAll days rs = none ∧ runFn f_check_rows c [.int days, .lst (rs.map rowD)] = .ok (.val .non)) ∨ ∃ k fs, chkAll days rs = some k ∧ runFn f_check_rows c [.int days, .lst (rs.map rowD)] = .err k fs := by
  obtain ⟨l, hl⟩ : ∃ l, l = rs.map rowD := ⟨_, rfl⟩
  have hz : ∀ (h : rs = []), tv c (.not (.v (.s 1))) [.val (.int days), .pk l, .no, .no, .no, .no] = .ok true := fun h => by
    rw [hl, h]
    rfl
  have hnz : ∀ (h : rs ≠ []), tv c (.not (.v (.s 1))) [.val (.int days), .pk l, .no, .no, .no, .no] = .ok false := fun h => by
    rw [hl]
    cases rs with
    | nil => exact absurd rfl h
    | cons a b => rfl
  unfold chkAll
  by_cases h : rs = []
  · refine .inr ⟨3, [.str "no row"], by rw [if_pos h], ?_⟩
    rw [← hl]
    refine run_err (e := [.val (.int days), .pk l, .no, .no, .no, .no]) rfl rfl ?_
    show exss c f_check_rows.body [.val (.int days), .pk l, .no, .no, .no, .no] = _
    unfold f_check_rows
    simp only [exss, exs, frz, List.foldl_nil, hz h, Res.to_ok, if_true, evs, ev, Res.bind_ok, Vl.d_val, Out.seq_err]
  · rw [if_neg h]
    have st : exss c f_check_rows.body [.val (.int days), .pk l, .no, .no, .no, .no] = forLoop (.t [3, 4, 5]) (exss c chkBody) l [.val (.int days), .pk l, .val (.int (-1)), .no, .no, .no] := by
      have s1 : exs c (.ite [] (.not (.v (.s 1))) [.rais 3 [.str "no row"]] []) [.val (.int days), .pk l, .no, .no, .no, .no] = .nx [.val (.int days), .pk l, .no, .no, .no, .no] := by
        simp only [exs, frz, List.foldl_nil, hnz h, Res.to_ok, Bool.false_eq_true, if_false, exss]
      have s2 : exs c (.asg [] 2 (.neg (.int 1))) [.val (.int days), .pk l, .no, .no, .no, .no] = .nx [.val (.int days), .pk l, .val (.int (-1)), .no, .no, .no] := exs_asg (v := .val (.int (-1))) (by simp only [ev, Res.bind_ok, Vl.d_val, neg])
      unfold f_check_rows
      rw [exss_nx s1, exss_nx s2, exss_one]
      simp only [exs, frz, List.foldl_nil, itsF, List.getElem?_cons_zero, List.getElem?_cons_succ, Res.to_ok]
      rfl
    rcases chk_loop c days (.pk l) rs (-1) .no .no .no with ⟨a, e, q⟩ | ⟨k, a, fs, e, q⟩
    · rw [← hl] at q
      refine .inl ⟨a, ?_⟩
      rw [← hl]
      exact run_nx (e := e) rfl rfl (st.trans q)
    · rw [← hl] at q
      refine .inr ⟨k, fs, a, ?_⟩
      rw [← hl]
      exact run_err (e := e) rfl rfl (st.trans q)
/-! ### by_day -/
theorem row_ix {rs : List Rw} {i : Int} {r : Rw} (h0 : 0 ≤ i) (h : rs[i.toNat]? = some r) : index (.lst (rs.map rowD)) (.int i) = .ok (rowD r) := by
  have hl := (List.getElem?_eq_some_iff.mp h).1
  refine index_lst ?_
  rw [List.length_map, ixNat_nn h0 (by omega)]
  simp only [Option.bind_some, List.getElem?_map, h, Option.map_some]
theorem row_0 (r : Rw) : index (rowD r) (.int 0) = .ok (.int r.1) := rfl
/-- a row's low, its high -/
def ptOf (b : Bool) (r : Rw) : Int := if b then r.2.1 else r.2.2
def ptI (b : Bool) : Int := if b then 1 else 2
theorem row_pt (b : Bool) (r : Rw) : index (rowD r) (.int (ptI b)) = .ok (.int (ptOf b r)) := by cases b <;> rfl
/-- where row k ends -/
def endOf (days : Int) (rs : List Rw) (k : Nat) : Int := match rs[k + 1]? with
  | some r => r.1
  | none => days
def blk (days : Int) (rs : List Rw) (b : Bool) (k : Nat) : List Int := match rs[k]? with
  | some r => List.replicate (endOf days rs k - r.1).toNat (ptOf b r)
  | none => []
def byDay (days : Int) (rs : List Rw) (b : Bool) : List Int := (List.range rs.length).flatMap (blk days rs b)
theorem blk_len {days : Int} {rs : List Rw} {b : Bool} (hv : ∀ r ∈ rs, 0 ≤ r.1 ∧ r.1 < 400) (hd : days ≤ 400) (k : Nat) : (blk days rs b k).length ≤ 400 := by
  unfold blk
  split
  · rename_i r e
    rw [List.length_replicate]
    have h1 := hv r (List.mem_of_getElem? e)
    have h2 : endOf days rs k ≤ 400 := by
      unfold endOf
      split
      · rename_i r2 e2
        have := hv r2 (List.mem_of_getElem? e2)
        omega
      · exact hd
    omega
  · simp
def dayBody : List S := [.asg [] 5 (.v 0), .ite [] (.cmp .lt (.e (.bin .add (.s 4) (.e (.int 1)))) (.e (.b1 .len (.s 1)))) [.asg [] 5 (.ix (.e (.ix (.s 1) (.e (.bin .add (.s 4) (.e (.int 1)))))) (.e (.int 0)))] [], .forl [] (.n 6) (.r1 (.bin .sub (.s 5) (.e (.ix (.e (.ix (.s 1) (.s 4))) (.e (.int 0)))))) [.app [] 3 (.ix (.e (.ix (.s 1) (.s 4))) (.s 2))]]
/-- the inner loop appends the same value again and again -/
theorem app_loop (c : Ctx) (a0 a1 a2 a4 a5 : Sl) (e : E) (v : Int) (he : ∀ (xs : List Int) (s6 : Sl), ev c e [a0, a1, a2, .own (xs.map .int), a4, a5, s6] = .ok (.val (.int v))) : ∀ (ds : List D) (xs : List Int) (s6 : Sl), xs.length + ds.length ≤ SL →
    ∃ s6', forLoop (.n 6) (exss c [.app [] 3 e]) ds [a0, a1, a2, .own (xs.map .int), a4, a5, s6] = .nx [a0, a1, a2, .own ((xs ++ List.replicate ds.length v).map .int), a4, a5, s6']
  | [], xs, s6, _ => ⟨s6, by simp [forLoop]⟩
  | d :: ds, xs, s6, h => by
    rw [List.length_cons] at h
    have e1 : setT (.n 6) d [a0, a1, a2, .own (xs.map .int), a4, a5, s6] = some [a0, a1, a2, .own (xs.map .int), a4, a5, .val d] := rfl
    have hz : (xs.map D.int).length < SL := by rw [List.length_map]; omega
    have e2 : exss c [.app [] 3 e] [a0, a1, a2, .own (xs.map .int), a4, a5, .val d] = .nx [a0, a1, a2, .own ((xs ++ [v]).map .int), a4, a5, .val d] := by
      rw [exss_one]
      simp only [exs, frz, List.foldl_nil, List.getElem?_cons_zero, List.getElem?_cons_succ, he, Res.to_ok, hz, if_true, Vl.d_val, List.set_cons_zero, List.set_cons_succ, List.map_append, List.map_cons, List.map_nil]
    obtain ⟨s6', q⟩ := app_loop c a0 a1 a2 a4 a5 e v he ds (xs ++ [v]) (.val d) (by rw [List.length_append, List.length_singleton]; omega)
    refine ⟨s6', ?_⟩
    simp only [forLoop, e1, e2]
    rw [q]
    simp [List.replicate_succ]
theorem day_step (c : Ctx) (days : Int) (rs : List Rw) (b : Bool) (hv : ∀ r ∈ rs, 0 ≤ r.1 ∧ r.1 < 400) (hd : days ≤ 400) (hd0 : -1000 ≤ days) (i : Nat) (j : Int) (hj : j = i) (hi : i < rs.length) (xs : List Int) (s5 s6 : Sl) (hx : xs.length + 400 ≤ SL) :
    ∃ s5' s6', exss c dayBody [.val (.int days), .pk (rs.map rowD), .val (.int (ptI b)), .own (xs.map .int), .val (.int j), s5, s6] = .nx [.val (.int days), .pk (rs.map rowD), .val (.int (ptI b)), .own ((xs ++ blk days rs b i).map .int), .val (.int j), s5', s6'] := by
  obtain ⟨r, hr⟩ : ∃ r, rs[i]? = some r := ⟨_, List.getElem?_eq_getElem hi⟩
  have hjn : j.toNat = i := by omega
  have ir : index (.lst (rs.map rowD)) (.int j) = .ok (rowD r) := row_ix (by omega) (by rw [hjn]; exact hr)
  have hlen : b1 .len (.lst (rs.map rowD)) = .ok (.val (.int rs.length)) := by
    show Res.ok (Vl.val (.int ((rs.map rowD).length : Nat))) = _
    rw [List.length_map]
  obtain ⟨n, hn⟩ : ∃ n : Int, n = rs.length := ⟨_, rfl⟩
  rw [← hn] at hlen
  obtain ⟨l, hl⟩ : ∃ l, l = rs.map rowD := ⟨_, rfl⟩
  have hvr := hv r (List.mem_of_getElem? hr)
  -- the end
  have ends : ∀ s3 s6, ∃ en : Int, en = endOf days rs i ∧ -1000 ≤ en ∧ en ≤ 400 ∧ exss c [.asg [] 5 (.v 0), .ite [] (.cmp .lt (.e (.bin .add (.s 4) (.e (.int 1)))) (.e (.b1 .len (.s 1)))) [.asg [] 5 (.ix (.e (.ix (.s 1) (.e (.bin .add (.s 4) (.e (.int 1)))))) (.e (.int 0)))] []] [.val (.int days), .pk l, .val (.int (ptI b)), s3, .val (.int j), s5, s6] = .nx [.val (.int days), .pk l, .val (.int (ptI b)), s3, .val (.int j), .val (.int en), s6] := fun s3 s6 => by
    have s1 : exs c (.asg [] 5 (.v 0)) [.val (.int days), .pk l, .val (.int (ptI b)), s3, .val (.int j), s5, s6] = .nx [.val (.int days), .pk l, .val (.int (ptI b)), s3, .val (.int j), .val (.int days), s6] := exs_asg (v := .val (.int days)) (by simp only [ev, getv, List.getElem?_cons_zero])
    by_cases h : j + 1 < n
    · obtain ⟨r2, hr2⟩ : ∃ r2, rs[i + 1]? = some r2 := ⟨_, List.getElem?_eq_getElem (by omega)⟩
      have hv2 := hv r2 (List.mem_of_getElem? hr2)
      have ir2 : index (.lst l) (.int (j + 1)) = .ok (rowD r2) := by
        rw [hl]
        exact row_ix (by omega) (by rw [show (j + 1).toNat = i + 1 by omega]; exact hr2)
      refine ⟨r2.1, by unfold endOf; rw [hr2], by omega, by omega, ?_⟩
      rw [exss_nx s1, exss_one]
      rw [← hl] at hlen
      simp only [exs, frz, List.foldl_nil, tv, po, pt, ev, peek, peekT, List.getElem?_cons_zero, List.getElem?_cons_succ, Res.bind_ok, Vl.d_val, bin_add, hlen, cmp_lt, h, decide_true, Res.to_ok, if_true, exss, ir2, row_0, Vl.sl_val, List.set_cons_zero, List.set_cons_succ, Out.seq_nx]
    · have e0 : rs[i + 1]? = none := List.getElem?_eq_none (by omega)
      refine ⟨days, by unfold endOf; rw [e0], hd0, hd, ?_⟩
      rw [exss_nx s1, exss_one]
      rw [← hl] at hlen
      simp only [exs, frz, List.foldl_nil, tv, po, pt, ev, peek, peekT, List.getElem?_cons_zero, List.getElem?_cons_succ, Res.bind_ok, Vl.d_val, bin_add, hlen, cmp_lt, h, decide_false, Res.to_ok, Bool.false_eq_true, if_false, exss]
  obtain ⟨en, he1, he2, he3, he4⟩ := ends (.own (xs.map .int)) s6
  have hin : inR (en - r.1) = true := by
    unfold inR
    simp only [Bool.and_eq_true, decide_eq_true_eq]
    omega
  have hb : blk days rs b i = List.replicate (en - r.1).toNat (ptOf b r) := by
    unfold blk
    rw [hr, ← he1]
  have hrl : (rangeD 0 (en - r.1)).length = (en - r.1).toNat := by simp [rangeD]
  have hSL : SL = 16777216 := rfl
  rw [← hl] at ir ⊢
  obtain ⟨s6', q⟩ := app_loop c (.val (.int days)) (.pk l) (.val (.int (ptI b))) (.val (.int j)) (.val (.int en)) (.ix (.e (.ix (.s 1) (.s 4))) (.s 2)) (ptOf b r) (fun ys s6 => by
    simp only [ev, po, peek, List.getElem?_cons_zero, List.getElem?_cons_succ, Res.bind_ok, Vl.d_val, ir, row_pt]) (rangeD 0 (en - r.1)) xs s6 (by rw [hrl]; omega)
  refine ⟨.val (.int en), s6', ?_⟩
  unfold dayBody
  have app3 : ∀ (a b d : S) (env : Env), exss c [a, b, d] env = (exss c [a, b] env).seq (exss c [d]) := fun a b d env => by
    simp only [exss]
    cases exs c a env <;> simp only [Out.seq_nx, Out.seq_ret, Out.seq_ct, Out.seq_err, Out.seq_bad]
    rename_i e
    cases exs c b e <;> simp only [Out.seq_nx, Out.seq_ret, Out.seq_ct, Out.seq_err, Out.seq_bad]
  rw [app3, he4, Out.seq_nx, exss_one]
  simp only [exs, frz, List.foldl_nil, itsF, its, ev, po, pt, peek, peekT, List.getElem?_cons_zero, List.getElem?_cons_succ, Res.bind_ok, Vl.d_val, ir, row_0, bin_sub, asInt, hin, if_true, Res.to_ok]
  rw [q, hb, hrl]
theorem byDay_ok (c : Ctx) (days : Int) (rs : List Rw) (b : Bool) (hv : ∀ r ∈ rs, 0 ≤ r.1 ∧ r.1 < 400) (hd : days ≤ 400) (hd0 : -1000 ≤ days) (hn : rs.length ≤ 1000) : runFn f_by_day c [.int days, .lst (rs.map rowD), .int (ptI b)] = .ok (.own ((byDay days rs b).map .int)) := by
  have hSL : SL = 16777216 := rfl
  have loop := for_at (tg := .n 4) (body := exss c dayBody) (fun (k : Nat) => D.int (0 + (k : Int))) (List.range rs.length)
    (fun i env => ∃ xs s4 s5 s6, env = [.val (.int days), .pk (rs.map rowD), .val (.int (ptI b)), .own (xs.map .int), s4, s5, s6] ∧ xs = (List.range i).flatMap (blk days rs b) ∧ xs.length ≤ 400 * i)
    (fun i k env hk ⟨xs, s4, s5, s6, e1, e2, e3⟩ => by
      have hl := (List.getElem?_eq_some_iff.mp hk).1
      rw [List.length_range] at hl
      have hki : k = i := by
        rw [List.getElem?_range hl] at hk
        exact (Option.some.inj hk).symm
      subst hki
      obtain ⟨j, hj⟩ : ∃ j : Int, j = 0 + (k : Int) := ⟨_, rfl⟩
      obtain ⟨s5', s6', q⟩ := day_step c days rs b hv hd hd0 k j (by omega) hl xs s5 s6 (by omega)
      rw [← hj, e1]
      refine ⟨_, rfl, _, q, xs ++ blk days rs b k, .val (.int j), s5', s6', rfl, ?_, ?_⟩
      · rw [e2, List.range_succ, List.flatMap_append]
        simp
      · have := blk_len (days := days) (rs := rs) (b := b) hv hd k
        rw [List.length_append]
        omega) (env := [.val (.int days), .pk (rs.map rowD), .val (.int (ptI b)), .own [], .no, .no, .no]) ⟨[], .no, .no, .no, rfl, rfl, by simp⟩
  obtain ⟨e2, q, xs, s4, s5, s6, h1, h2, h3⟩ := loop
  rw [List.length_range] at h2 h3
  obtain ⟨n, hnn⟩ : ∃ n : Int, n = rs.length := ⟨_, rfl⟩
  have hrd : rangeD 0 n = (List.range rs.length).map fun (k : Nat) => D.int (0 + (k : Int)) := by
    unfold rangeD
    rw [show (n - 0).toNat = rs.length by omega]
  rw [← hrd] at q
  have hlen : b1 .len (.lst (rs.map rowD)) = .ok (.val (.int n)) := by
    rw [hnn]
    show Res.ok (Vl.val (.int ((rs.map rowD).length : Nat))) = _
    rw [List.length_map]
  have hin : inR n = true := by
    unfold inR
    simp only [Bool.and_eq_true, decide_eq_true_eq]
    omega
  obtain ⟨l, hl⟩ : ∃ l, l = rs.map rowD := ⟨_, rfl⟩
  rw [← hl] at hlen q h1 ⊢
  have pp : Bool.rec (D.int 2) (D.int 1) b = D.int (ptI b) := by cases b <;> rfl
  refine run_ret rfl rfl ?_
  show exss c f_by_day.body [.val (.int days), .pk l, .val (.int (ptI b)), .no, .no, .no, .no] = _
  have s1 : exs c (.asg [] 3 (.lst [])) [.val (.int days), .pk l, .val (.int (ptI b)), .no, .no, .no, .no] = .nx [.val (.int days), .pk l, .val (.int (ptI b)), .own [], .no, .no, .no] := exs_asg (v := .own []) (by simp [ev, evs])
  have s2 : exs c (.forl [] (.n 4) (.r1 (.b1 .len (.s 1))) dayBody) [.val (.int days), .pk l, .val (.int (ptI b)), .own [], .no, .no, .no] = .nx e2 := by
    simp only [exs, frz, List.foldl_nil, itsF, its, ev, po, peek, List.getElem?_cons_zero, List.getElem?_cons_succ, Res.bind_ok, hlen, asInt, hin, if_true, Res.to_ok]
    exact q
  have s3 : exs c (.reto 3) e2 = .ret (.own ((byDay days rs b).map .int)) := by
    rw [h1, h2]
    simp only [exs, List.getElem?_cons_zero, List.getElem?_cons_succ]
    rfl
  unfold f_by_day
  unfold dayBody at s2
  rw [exss_nx s1, exss_nx s2, exss_ret s3]
/-! ### sums_of -/
def sums : Int → List Int → List Int
  | z, [] => [z]
  | z, x :: xs => z :: sums (z + x) xs
def sumBody : List S := [.app [] 1 (.bin .add (.e (.ix (.s 1) (.e (.neg (.int 1))))) (.s 2))]
theorem sum_step (c : Ctx) (l : Sl) (ys : List Int) (z x : Int) (hy : ys.length + 1 < SL) : exss c sumBody [l, .own ((ys ++ [z]).map .int), .val (.int x)] = .nx [l, .own ((ys ++ [z] ++ [z + x]).map .int), .val (.int x)] := by
  have hix : index (.lst ((ys ++ [z]).map .int)) (.int (-1)) = .ok (.int z) := by
    refine index_lst ?_
    have : ixNat ((ys ++ [z]).map D.int).length (-1) = some ys.length := by
      unfold ixNat
      rw [List.length_map, List.length_append, List.length_singleton]
      rw [if_neg (by omega), if_pos (by omega)]
      congr 1
      omega
    rw [this]
    simp
  have hz : ((ys ++ [z]).map D.int).length < SL := by rw [List.length_map, List.length_append, List.length_singleton]; omega
  unfold sumBody
  rw [exss_one]
  simp only [exs, frz, List.foldl_nil, ev, po, pt, peek, peekT, List.getElem?_cons_zero, List.getElem?_cons_succ, Res.bind_ok, Vl.d_val, neg, hix, bin_add, Res.to_ok, hz, if_true, List.set_cons_zero, List.set_cons_succ]
  simp
theorem sum_loop (c : Ctx) (l : Sl) : ∀ (xs ys : List Int) (z : Int) (s2 : Sl), ys.length + 1 + xs.length < SL → ∃ s2', forLoop (.n 2) (exss c sumBody) (xs.map .int) [l, .own ((ys ++ [z]).map .int), s2] = .nx [l, .own ((ys ++ sums z xs).map .int), s2']
  | [], ys, z, s2, _ => ⟨s2, by simp [forLoop, sums]⟩
  | x :: xs, ys, z, s2, h => by
    rw [List.length_cons] at h
    have e1 : setT (.n 2) (D.int x) [l, .own ((ys ++ [z]).map .int), s2] = some [l, .own ((ys ++ [z]).map .int), .val (.int x)] := rfl
    obtain ⟨s2', q⟩ := sum_loop c l xs (ys ++ [z]) (z + x) (.val (.int x)) (by rw [List.length_append, List.length_singleton]; omega)
    refine ⟨s2', ?_⟩
    rw [List.map_cons]
    simp only [forLoop, e1, sum_step c l ys z x (by omega)]
    rw [q]
    simp [sums]
theorem sums_ok (c : Ctx) (xs : List Int) (h : xs.length ≤ 1000) : runFn f_sums_of c [.lst (xs.map .int)] = .ok (.own ((sums 0 xs).map .int)) := by
  have hSL : SL = 16777216 := rfl
  obtain ⟨s2', q⟩ := sum_loop c (.pk (xs.map .int)) xs [] 0 .no (by simp; omega)
  simp only [List.nil_append, List.map_cons, List.map_nil] at q
  refine run_ret rfl rfl ?_
  show exss c f_sums_of.body [.pk (xs.map .int), .no, .no] = _
  have s1 : exs c (.asg [] 1 (.lst [.int 0])) [.pk (xs.map .int), .no, .no] = .nx [.pk (xs.map .int), .own [.int 0], .no] := exs_asg (v := .own [.int 0]) (by simp [ev, evs, hSL])
  have s2 : exs c (.forl [] (.n 2) (.sq (.s 0)) sumBody) [.pk (xs.map .int), .own [.int 0], .no] = .nx [.pk (xs.map .int), .own ((sums 0 xs).map .int), s2'] := by
    simp only [exs, frz, List.foldl_nil, itsF, List.getElem?_cons_zero, Res.to_ok]
    exact q
  have s3 : exs c (.reto 1) [.pk (xs.map .int), .own ((sums 0 xs).map .int), s2'] = .ret (.own ((sums 0 xs).map .int)) := by
    simp only [exs, List.getElem?_cons_zero, List.getElem?_cons_succ]
  unfold f_sums_of
  unfold sumBody at s2
  rw [exss_nx s1, exss_nx s2, exss_ret s3]
/-! ### Limits.__init__ -/
theorem chk_facts (days : Int) : ∀ (rs : List Rw) (last : Int), -1 ≤ last → chk days last rs = none → (∀ r ∈ rs, last < r.1 ∧ r.1 < days ∧ okUse r) ∧ (rs ≠ [] → last + rs.length < days)
  | [], last, _, _ => ⟨by simp, by simp⟩
  | r :: rs, last, h, e => by
    unfold chk at e
    by_cases h1 : okRow days last r
    · by_cases h2 : okUse r
      · rw [if_pos h1, if_pos h2] at e
        have h3 : last < r.1 ∧ r.1 < days := by
          unfold okRow at h1
          omega
        obtain ⟨a, b⟩ := chk_facts days rs r.1 (by omega) e
        refine ⟨fun x hx => ?_, fun _ => ?_⟩
        · rcases List.mem_cons.mp hx with rfl | hx
          · exact ⟨h3.1, h3.2, h2⟩
          · have := a x hx
            exact ⟨by omega, this.2⟩
        · cases rs with
          | nil => simp; omega
          | cons x xs =>
            have := b (by simp)
            simp only [List.length_cons] at this ⊢
            omega
      · rw [if_pos h1, if_neg h2] at e
        cases e
    · rw [if_neg h1] at e
      cases e
theorem call_0 (k : Nat) : sem (tblOf T) 0 (k + 1) 0 = runFn f_check_rows (S8 k) := sem_f k 0 _ rfl
theorem call_1 (k : Nat) : sem (tblOf T) 0 (k + 1) 1 = runFn f_by_day (S8 k) := sem_f k 1 _ rfl
theorem call_2 (k : Nat) : sem (tblOf T) 0 (k + 1) 2 = runFn f_sums_of (S8 k) := sem_f k 2 _ rfl
theorem call_4 (k : Nat) : sem (tblOf T) 0 (k + 1) 4 = runFn f_Limits_init (S8 k) := sem_f k 4 _ rfl
/-- limits: the lows, the highs, day by day -/
def limO (lo hi : List Int) : D := .ins 0 [.int lo.length, .lst (lo.map .int), .lst (hi.map .int), .lst ((sums 0 lo).map .int), .lst ((sums 0 hi).map .int)]
def limI (days : Int) (lo hi : List Int) : List D := [.int days, .lst (lo.map .int), .lst (hi.map .int), .lst ((sums 0 lo).map .int), .lst ((sums 0 hi).map .int)]
def mkErr (days : Int) (rs : List Rw) : Option Nat := if 1 ≤ days ∧ days ≤ 400 then chkAll days rs else some 1
theorem byDay_len {days : Int} {rs : List Rw} {b : Bool} (hv : ∀ r ∈ rs, 0 ≤ r.1 ∧ r.1 < 400) (hd : days ≤ 400) : (byDay days rs b).length ≤ 400 * rs.length := by
  unfold byDay
  have : ∀ n, ((List.range n).flatMap (blk days rs b)).length ≤ 400 * n := fun n => by
    induction n with
    | zero => simp
    | succ n ih =>
      rw [List.range_succ, List.flatMap_append, List.length_append]
      have := blk_len (days := days) (rs := rs) (b := b) hv hd n
      simp only [List.flatMap_cons, List.flatMap_nil, List.append_nil]
      omega
  exact this _
theorem run_ini {f : Fn} {c : Ctx} {ds xs : List D} {k k2 : Nat} {e : Env} (hi : f.ini = some k) (hl : ds.length = f.pm.length) (h : exss c f.body (.obj k [] :: startE f.pm ds ++ List.replicate (f.ns - f.pm.length - 1) .no) = .nx (.obj k2 xs :: e)) : runFn f c ds = .ok (.val (.ins k xs)) := by
  unfold runFn
  simp only [hl, if_true, hi, h, List.head?_cons]
theorem run_inie {f : Fn} {c : Ctx} {ds xs : List D} {k z : Nat} {e : Env} (hi : f.ini = some k) (hl : ds.length = f.pm.length) (h : exss c f.body (.obj k [] :: startE f.pm ds ++ List.replicate (f.ns - f.pm.length - 1) .no) = .err z xs e) : runFn f c ds = .err z xs := by
  unfold runFn
  simp only [hl, if_true, hi, h]
theorem exs_setf {c : Ctx} {e : E} {env : Env} {v : Vl} {k j : Nat} {ds : List D} (h : ev c e (.obj k ds :: env) = .ok v) (hj : j = ds.length) (h2 : j < 100) : exs c (.setf [] k j e) (.obj k ds :: env) = .nx (.obj k (ds ++ [v.d]) :: env) := by
  simp only [exs, frz, List.foldl_nil, h, Res.to_ok, List.head?_cons, List.set_cons_zero]
  exact if_pos ⟨trivial, hj, h2⟩
theorem exs_ex {c : Ctx} {e : E} {env : Env} {v : Vl} (h : ev c e env = .ok v) : exs c (.ex [] e) env = .nx env := by
  simp only [exs, frz, List.foldl_nil, h, Res.to_ok]
theorem exss_end {c : Ctx} {s : S} {env env' : Env} (h : exs c s env = .nx env') : exss c [s] env = .nx env' := (exss_one c s env).trans h
theorem ev_call {c : Ctx} {f : Nat} {es : List A} {env : Env} {ds : List D} {r : Res Vl} (h : args c es env = .ok ds) (h2 : c.call f ds = r) : ev c (.call f es) env = r := by
  simp only [ev, h, Res.bind_ok, h2]
theorem init_ok (k : Nat) (days : Int) (rs : List Rw) (hbl : ∀ b, mkErr days rs = none → (byDay days rs b).length ≤ 1000) :
    (mkErr days rs = none ∧ runFn f_Limits_init (S8 (k + 1)) [.int days, .lst (rs.map rowD)] = .ok (.val (.ins 0 (limI days (byDay days rs true) (byDay days rs false))))) ∨
    ∃ e fs, mkErr days rs = some e ∧ runFn f_Limits_init (S8 (k + 1)) [.int days, .lst (rs.map rowD)] = .err e fs := by
  obtain ⟨l, hl⟩ : ∃ l, l = rs.map rowD := ⟨_, rfl⟩
  have t1 : tv (S8 (k + 1)) (.not (.ch2 .le .le (.e (.int 1)) (.s 1) (.e (.g 4 (.int (400)))))) [.obj 0 [], .val (.int days), .pk l] = .ok (!decide (1 ≤ days ∧ days ≤ 400)) := by
    simp only [tv, po, peek, ev, List.getElem?_cons_zero, List.getElem?_cons_succ, Res.bind_ok, Vl.d_val, cmp_le]
    by_cases h1 : 1 ≤ days
    · by_cases h2 : days ≤ 400 <;> simp [h1, h2]
    · simp [h1]
  by_cases h : 1 ≤ days ∧ days ≤ 400
  · have e : mkErr days rs = chkAll days rs := if_pos h
    have s0 : exs (S8 (k + 1)) (.ite [] (.not (.ch2 .le .le (.e (.int 1)) (.s 1) (.e (.g 4 (.int (400)))))) [.rais 1 [.str "number of days"]] []) [.obj 0 [], .val (.int days), .pk l] = .nx [.obj 0 [], .val (.int days), .pk l] := by
      simp only [exs, frz, List.foldl_nil, t1, h, and_self, decide_true, Bool.not_true, Res.to_ok, Bool.false_eq_true, if_false, exss]
    rcases check_ok (S8 k) days rs with ⟨a, q⟩ | ⟨er, fs, a, q⟩
    · refine .inl ⟨e.trans a, ?_⟩
      have hne : rs ≠ [] := fun hh => by
        unfold chkAll at a
        rw [if_pos hh] at a
        cases a
      have a2 := a
      unfold chkAll at a2
      rw [if_neg hne] at a2
      obtain ⟨f1, f2⟩ := chk_facts days rs (-1) (by omega) a2
      have f3 := f2 hne
      have hv : ∀ r ∈ rs, 0 ≤ r.1 ∧ r.1 < 400 := fun r hr => by
        have := f1 r hr
        omega
      have b1 := byDay_ok (S8 k) days rs true hv h.2 (by omega) (by omega)
      have b2 := byDay_ok (S8 k) days rs false hv h.2 (by omega) (by omega)
      have c1 := sums_ok (S8 k) (byDay days rs true) (hbl true (e.trans a))
      have c2 := sums_ok (S8 k) (byDay days rs false) (hbl false (e.trans a))
      obtain ⟨lo, hlo⟩ : ∃ lo, lo = byDay days rs true := ⟨_, rfl⟩
      obtain ⟨hi, hhi⟩ : ∃ hi, hi = byDay days rs false := ⟨_, rfl⟩
      rw [← hlo] at b1 c1 ⊢
      rw [← hhi] at b2 c2 ⊢
      rw [← hl] at q b1 b2 ⊢
      have p1 : ptI true = 1 := rfl
      have p2 : ptI false = 2 := rfl
      rw [p1] at b1
      rw [p2] at b2
      refine run_ini (k2 := 0) (e := [.val (.int days), .pk l]) rfl rfl ?_
      show exss (S8 (k + 1)) f_Limits_init.body [.obj 0 [], .val (.int days), .pk l] = _
      unfold f_Limits_init
      have g1 : (S8 (k + 1)).call 0 [.int days, .lst l] = .ok (.val .non) := by
        rw [show (S8 (k + 1)).call = sem (tblOf T) 0 (k + 1) from rfl, call_0]
        exact q
      have g2 : (S8 (k + 1)).call 1 [.int days, .lst l, .int 1] = .ok (.own (lo.map .int)) := by
        rw [show (S8 (k + 1)).call = sem (tblOf T) 0 (k + 1) from rfl, call_1]
        exact b1
      have g3 : (S8 (k + 1)).call 1 [.int days, .lst l, .int 2] = .ok (.own (hi.map .int)) := by
        rw [show (S8 (k + 1)).call = sem (tblOf T) 0 (k + 1) from rfl, call_1]
        exact b2
      have g4 : (S8 (k + 1)).call 2 [.lst (lo.map .int)] = .ok (.own ((sums 0 lo).map .int)) := by
        rw [show (S8 (k + 1)).call = sem (tblOf T) 0 (k + 1) from rfl, call_2]
        exact c1
      have g5 : (S8 (k + 1)).call 2 [.lst (hi.map .int)] = .ok (.own ((sums 0 hi).map .int)) := by
        rw [show (S8 (k + 1)).call = sem (tblOf T) 0 (k + 1) from rfl, call_2]
        exact c2
      have s1 : exs (S8 (k + 1)) (.ex [] (.call 0 [.p (.s 1), .p (.s 2)])) [.obj 0 [], .val (.int days), .pk l] = .nx [.obj 0 [], .val (.int days), .pk l] := exs_ex (ev_call (ds := [.int days, .lst l]) (by simp only [args, arg, po, peek, ev, getv, List.getElem?_cons_zero, List.getElem?_cons_succ, Res.bind_ok, Vl.d_val, if_true]) g1)
      have s2 : exs (S8 (k + 1)) (.setf [] 0 0 (.v 1)) [.obj 0 [], .val (.int days), .pk l] = .nx [.obj 0 [.int days], .val (.int days), .pk l] := exs_setf (j := 0) (v := .val (.int days)) rfl rfl (by omega)
      have s3 : exs (S8 (k + 1)) (.setf [] 0 1 (.call 1 [.e (.v 1), .p (.s 2), .p (.e (.int 1))])) [.obj 0 [.int days], .val (.int days), .pk l] = .nx [.obj 0 [.int days, .lst (lo.map .int)], .val (.int days), .pk l] := exs_setf (j := 1) (v := .own (lo.map .int)) (ev_call (ds := [.int days, .lst l, .int 1]) (by simp only [args, arg, po, peek, ev, getv, List.getElem?_cons_zero, List.getElem?_cons_succ, Res.bind_ok, Vl.d_val, if_true]) g2) rfl (by omega)
      have s4 : exs (S8 (k + 1)) (.setf [] 0 2 (.call 1 [.e (.v 1), .p (.s 2), .p (.e (.int 2))])) [.obj 0 [.int days, .lst (lo.map .int)], .val (.int days), .pk l] = .nx [.obj 0 [.int days, .lst (lo.map .int), .lst (hi.map .int)], .val (.int days), .pk l] := exs_setf (j := 2) (v := .own (hi.map .int)) (ev_call (ds := [.int days, .lst l, .int 2]) (by simp only [args, arg, po, peek, ev, getv, List.getElem?_cons_zero, List.getElem?_cons_succ, Res.bind_ok, Vl.d_val, if_true]) g3) rfl (by omega)
      have s5 : exs (S8 (k + 1)) (.setf [] 0 3 (.call 2 [.p (.e (.sf 0 0 1))])) [.obj 0 [.int days, .lst (lo.map .int), .lst (hi.map .int)], .val (.int days), .pk l] = .nx [.obj 0 [.int days, .lst (lo.map .int), .lst (hi.map .int), .lst ((sums 0 lo).map .int)], .val (.int days), .pk l] := exs_setf (j := 3) (v := .own ((sums 0 lo).map .int)) (ev_call (ds := [.lst (lo.map .int)]) (by simp only [args, arg, po, peek, ev, getv, List.getElem?_cons_zero, List.getElem?_cons_succ, Res.bind_ok, Vl.d_val, if_true]) g4) rfl (by omega)
      have s6 : exs (S8 (k + 1)) (.setf [] 0 4 (.call 2 [.p (.e (.sf 0 0 2))])) [.obj 0 [.int days, .lst (lo.map .int), .lst (hi.map .int), .lst ((sums 0 lo).map .int)], .val (.int days), .pk l] = .nx [.obj 0 (limI days lo hi), .val (.int days), .pk l] := exs_setf (j := 4) (v := .own ((sums 0 hi).map .int)) (ev_call (ds := [.lst (hi.map .int)]) (by simp only [args, arg, po, peek, ev, getv, List.getElem?_cons_zero, List.getElem?_cons_succ, Res.bind_ok, Vl.d_val, if_true]) g5) rfl (by omega)
      rw [exss_nx s0, exss_nx s1, exss_nx s2, exss_nx s3, exss_nx s4, exss_nx s5, exss_end s6]
    · refine .inr ⟨er, fs, e.trans a, ?_⟩
      rw [← hl] at q ⊢
      refine run_inie (e := [.obj 0 [], .val (.int days), .pk l]) rfl rfl ?_
      show exss (S8 (k + 1)) f_Limits_init.body [.obj 0 [], .val (.int days), .pk l] = _
      unfold f_Limits_init
      rw [exss_nx s0]
      simp only [exss, exs, frz, List.foldl_nil, ev, args, arg, po, pt, peek, peekT, getv, List.getElem?_cons_zero, List.getElem?_cons_succ, Res.bind_ok, Vl.d_val, call_0, q, Res.to_err, Res.bind_err, Out.seq_err]
  · refine .inr ⟨1, [.str "number of days"], if_neg h, ?_⟩
    rw [← hl]
    refine run_inie (e := [.obj 0 [], .val (.int days), .pk l]) rfl rfl ?_
    show exss (S8 (k + 1)) f_Limits_init.body [.obj 0 [], .val (.int days), .pk l] = _
    unfold f_Limits_init
    simp only [exss, exs, frz, List.foldl_nil, t1, h, decide_false, Bool.not_false, Res.to_ok, if_true, evs, ev, Res.bind_ok, Vl.d_val, Out.seq_err]
/-! ### least, most -/
theorem fld_0 (c : Ctx) (lo hi : List Int) (r : Env) : ev c (.fld (.v 0) 0 0) (.val (limO lo hi) :: r) = .ok (.val (.int lo.length)) := by
  simp only [ev, getv, List.getElem?_cons_zero, Res.bind_ok, Vl.d_val, limO, if_true]
theorem fld_1 (c : Ctx) (lo hi : List Int) (r : Env) : ev c (.fld (.v 0) 0 1) (.val (limO lo hi) :: r) = .ok (.val (.lst (lo.map .int))) := by
  simp only [ev, getv, List.getElem?_cons_zero, List.getElem?_cons_succ, Res.bind_ok, Vl.d_val, limO, if_true]
theorem fld_2 (c : Ctx) (lo hi : List Int) (r : Env) : ev c (.fld (.v 0) 0 2) (.val (limO lo hi) :: r) = .ok (.val (.lst (hi.map .int))) := by
  simp only [ev, getv, List.getElem?_cons_zero, List.getElem?_cons_succ, Res.bind_ok, Vl.d_val, limO, if_true]
theorem fld_3 (c : Ctx) (lo hi : List Int) (r : Env) : ev c (.fld (.v 0) 0 3) (.val (limO lo hi) :: r) = .ok (.val (.lst ((sums 0 lo).map .int))) := by
  simp only [ev, getv, List.getElem?_cons_zero, List.getElem?_cons_succ, Res.bind_ok, Vl.d_val, limO, if_true]
theorem fld_4 (c : Ctx) (lo hi : List Int) (r : Env) : ev c (.fld (.v 0) 0 4) (.val (limO lo hi) :: r) = .ok (.val (.lst ((sums 0 hi).map .int))) := by
  simp only [ev, getv, List.getElem?_cons_zero, List.getElem?_cons_succ, Res.bind_ok, Vl.d_val, limO, if_true]
theorem day_t (c : Ctx) (lo hi : List Int) (d : Int) : tv c (.not (.ch2 .le .lt (.e (.int 0)) (.s 1) (.e (.fld (.v 0) 0 0)))) [.val (limO lo hi), .val (.int d)] = .ok (!decide (0 ≤ d ∧ d < lo.length)) := by
  simp only [tv, po, peek, List.getElem?_cons_zero, List.getElem?_cons_succ, fld_0, Res.bind_ok, Vl.d_val]
  simp only [ev, Res.bind_ok, Vl.d_val, cmp_le, cmp_lt]
  by_cases h1 : 0 ≤ d
  · by_cases h2 : d < lo.length <;> simp [h1, h2]
  · simp [h1]
theorem least_ok (c : Ctx) (lo hi : List Int) (d : Int) :
    (0 ≤ d ∧ d < lo.length → runFn f_Limits_least c [limO lo hi, .int d] = .ok (.val (.int (lo.getD d.toNat 0)))) ∧
    (¬ (0 ≤ d ∧ d < lo.length) → ∃ fs, runFn f_Limits_least c [limO lo hi, .int d] = .err 1 fs) := by
  have t := day_t c lo hi d
  refine ⟨fun h => ?_, fun h => ⟨[.str "day"], ?_⟩⟩
  · refine run_ret rfl rfl ?_
    show exss c f_Limits_least.body [.val (limO lo hi), .val (.int d)] = _
    have s0 : exs c (.ite [] (.not (.ch2 .le .lt (.e (.int 0)) (.s 1) (.e (.fld (.v 0) 0 0)))) [.rais 1 [.str "day"]] []) [.val (limO lo hi), .val (.int d)] = .nx [.val (limO lo hi), .val (.int d)] := by
      simp only [exs, frz, List.foldl_nil, t, decide_eq_true h, Bool.not_true, Res.to_ok, Bool.false_eq_true, if_false, exss]
    have i1 := index_ints (R := lo) (i := d) h.1 h.2
    have s1 : exs c (.ret [] (.ix (.e (.fld (.v 0) 0 1)) (.s 1))) [.val (limO lo hi), .val (.int d)] = .ret (.val (.int (lo.getD d.toNat 0))) := exs_ret (by
      rw [ev]
      simp only [po, peek, List.getElem?_cons_zero, List.getElem?_cons_succ, fld_1, Res.bind_ok, Vl.d_val, i1])
    unfold f_Limits_least
    rw [exss_nx s0, exss_ret s1]
  · refine run_err (e := [.val (limO lo hi), .val (.int d)]) rfl rfl ?_
    show exss c f_Limits_least.body [.val (limO lo hi), .val (.int d)] = _
    unfold f_Limits_least
    simp only [exss, exs, frz, List.foldl_nil, t, decide_eq_false h, Bool.not_false, Res.to_ok, if_true, evs, ev, Res.bind_ok, Vl.d_val, Out.seq_err]
theorem most_ok (c : Ctx) (lo hi : List Int) (hl : lo.length = hi.length) (d : Int) :
    (0 ≤ d ∧ d < lo.length → runFn f_Limits_most c [limO lo hi, .int d] = .ok (.val (.int (hi.getD d.toNat 0)))) ∧
    (¬ (0 ≤ d ∧ d < lo.length) → ∃ fs, runFn f_Limits_most c [limO lo hi, .int d] = .err 1 fs) := by
  have t := day_t c lo hi d
  refine ⟨fun h => ?_, fun h => ⟨[.str "day"], ?_⟩⟩
  · refine run_ret rfl rfl ?_
    show exss c f_Limits_most.body [.val (limO lo hi), .val (.int d)] = _
    have s0 : exs c (.ite [] (.not (.ch2 .le .lt (.e (.int 0)) (.s 1) (.e (.fld (.v 0) 0 0)))) [.rais 1 [.str "day"]] []) [.val (limO lo hi), .val (.int d)] = .nx [.val (limO lo hi), .val (.int d)] := by
      simp only [exs, frz, List.foldl_nil, t, decide_eq_true h, Bool.not_true, Res.to_ok, Bool.false_eq_true, if_false, exss]
    have i1 := index_ints (R := hi) (i := d) h.1 (by omega)
    have s1 : exs c (.ret [] (.ix (.e (.fld (.v 0) 0 2)) (.s 1))) [.val (limO lo hi), .val (.int d)] = .ret (.val (.int (hi.getD d.toNat 0))) := exs_ret (by
      rw [ev]
      simp only [po, peek, List.getElem?_cons_zero, List.getElem?_cons_succ, fld_2, Res.bind_ok, Vl.d_val, i1])
    unfold f_Limits_most
    rw [exss_nx s0, exss_ret s1]
  · refine run_err (e := [.val (limO lo hi), .val (.int d)]) rfl rfl ?_
    show exss c f_Limits_most.body [.val (limO lo hi), .val (.int d)] = _
    unfold f_Limits_most
    simp only [exss, exs, frz, List.foldl_nil, t, decide_eq_false h, Bool.not_false, Res.to_ok, if_true, evs, ev, Res.bind_ok, Vl.d_val, Out.seq_err]
/-! ### reach -/
theorem sums_len (z : Int) (xs : List Int) : (sums z xs).length = xs.length + 1 := by
  induction xs generalizing z with
  | nil => rfl
  | cons x xs ih => simp only [sums, List.length_cons, ih]
/-- the sum up to a moment -/
def sumAt (xs : List Int) (i : Int) : Int := (sums 0 xs).getD i.toNat 0
def reachR (lo hi : List Int) (i j : Int) : D := if i ≤ j then .tup [.int (sumAt lo j - sumAt lo i), .int (sumAt hi j - sumAt hi i)] else .tup [.int (sumAt hi j - sumAt hi i), .int (sumAt lo j - sumAt lo i)]
theorem reach_t (c : Ctx) (lo hi : List Int) (i j : Int) (s3 s4 : Sl) : tv c (.or (.not (.ch2 .le .le (.e (.int 0)) (.s 1) (.e (.fld (.v 0) 0 0)))) (.not (.ch2 .le .le (.e (.int 0)) (.s 2) (.e (.fld (.v 0) 0 0))))) [.val (limO lo hi), .val (.int i), .val (.int j), s3, s4] = .ok (!decide ((0 ≤ i ∧ i ≤ lo.length) ∧ (0 ≤ j ∧ j ≤ lo.length))) := by
  simp only [tv, po, peek, List.getElem?_cons_zero, List.getElem?_cons_succ, fld_0, Res.bind_ok, Vl.d_val]
  simp only [ev, Res.bind_ok, Vl.d_val, cmp_le]
  by_cases h1 : 0 ≤ i
  · by_cases h2 : i ≤ lo.length
    · by_cases h3 : 0 ≤ j
      · by_cases h4 : j ≤ lo.length <;> simp [h1, h2, h3, h4]
      · simp [h1, h2, h3]
    · simp [h1, h2]
  · simp [h1]
theorem reach_ok (c : Ctx) (lo hi : List Int) (hl : lo.length = hi.length) (i j : Int) :
    ((0 ≤ i ∧ i ≤ lo.length) ∧ (0 ≤ j ∧ j ≤ lo.length) → runFn f_Limits_reach c [limO lo hi, .int i, .int j] = .ok (.val (reachR lo hi i j))) ∧
    (¬ ((0 ≤ i ∧ i ≤ lo.length) ∧ (0 ≤ j ∧ j ≤ lo.length)) → ∃ fs, runFn f_Limits_reach c [limO lo hi, .int i, .int j] = .err 1 fs) := by
  have t := reach_t c lo hi i j .no .no
  refine ⟨fun h => ?_, fun h => ⟨[.str "moment"], ?_⟩⟩
  · refine run_ret rfl rfl ?_
    show exss c f_Limits_reach.body [.val (limO lo hi), .val (.int i), .val (.int j), .no, .no] = _
    have l1 := sums_len 0 lo
    have l2 := sums_len 0 hi
    have s0 : exs c (.ite [] (.or (.not (.ch2 .le .le (.e (.int 0)) (.s 1) (.e (.fld (.v 0) 0 0)))) (.not (.ch2 .le .le (.e (.int 0)) (.s 2) (.e (.fld (.v 0) 0 0))))) [.rais 1 [.str "moment"]] []) [.val (limO lo hi), .val (.int i), .val (.int j), .no, .no] = .nx [.val (limO lo hi), .val (.int i), .val (.int j), .no, .no] := by
      simp only [exs, frz, List.foldl_nil, t, decide_eq_true h, Bool.not_true, Res.to_ok, Bool.false_eq_true, if_false, exss]
    have i1 := index_ints (R := sums 0 lo) (i := i) h.1.1 (by omega)
    have i2 := index_ints (R := sums 0 lo) (i := j) h.2.1 (by omega)
    have i3 := index_ints (R := sums 0 hi) (i := i) h.1.1 (by omega)
    have i4 := index_ints (R := sums 0 hi) (i := j) h.2.1 (by omega)
    have e1 : ev c (.bin .sub (.e (.ix (.e (.fld (.v 0) 0 3)) (.s 2))) (.e (.ix (.e (.fld (.v 0) 0 3)) (.s 1)))) [.val (limO lo hi), .val (.int i), .val (.int j), .no, .no] = .ok (.val (.int (sumAt lo j - sumAt lo i))) := by
      have x1 : ev c (.ix (.e (.fld (.v 0) 0 3)) (.s 2)) [.val (limO lo hi), .val (.int i), .val (.int j), .no, .no] = .ok (.val (.int (sumAt lo j))) := by
        rw [ev]
        simp only [po, peek, List.getElem?_cons_zero, List.getElem?_cons_succ, fld_3, Res.bind_ok, Vl.d_val, i2, sumAt]
      have x2 : ev c (.ix (.e (.fld (.v 0) 0 3)) (.s 1)) [.val (limO lo hi), .val (.int i), .val (.int j), .no, .no] = .ok (.val (.int (sumAt lo i))) := by
        rw [ev]
        simp only [po, peek, List.getElem?_cons_zero, List.getElem?_cons_succ, fld_3, Res.bind_ok, Vl.d_val, i1, sumAt]
      rw [ev]
      simp only [pt, x1, x2, Res.bind_ok, Vl.d_val, bin_sub]
    have e2 : ∀ s3, ev c (.bin .sub (.e (.ix (.e (.fld (.v 0) 0 4)) (.s 2))) (.e (.ix (.e (.fld (.v 0) 0 4)) (.s 1)))) [.val (limO lo hi), .val (.int i), .val (.int j), s3, .no] = .ok (.val (.int (sumAt hi j - sumAt hi i))) := fun s3 => by
      have x1 : ev c (.ix (.e (.fld (.v 0) 0 4)) (.s 2)) [.val (limO lo hi), .val (.int i), .val (.int j), s3, .no] = .ok (.val (.int (sumAt hi j))) := by
        rw [ev]
        simp only [po, peek, List.getElem?_cons_zero, List.getElem?_cons_succ, fld_4, Res.bind_ok, Vl.d_val, i4, sumAt]
      have x2 : ev c (.ix (.e (.fld (.v 0) 0 4)) (.s 1)) [.val (limO lo hi), .val (.int i), .val (.int j), s3, .no] = .ok (.val (.int (sumAt hi i))) := by
        rw [ev]
        simp only [po, peek, List.getElem?_cons_zero, List.getElem?_cons_succ, fld_4, Res.bind_ok, Vl.d_val, i3, sumAt]
      rw [ev]
      simp only [pt, x1, x2, Res.bind_ok, Vl.d_val, bin_sub]
    have s1 := exs_asg (i := 3) e1
    have s2 := exs_asg (i := 4) (e2 (.val (.int (sumAt lo j - sumAt lo i))))
    simp only [Vl.sl_val, List.set_cons_zero, List.set_cons_succ] at s1 s2
    unfold f_Limits_reach
    rw [exss_nx s0, exss_nx s1, exss_nx s2]
    unfold reachR
    by_cases hij : i ≤ j
    · simp only [exss, exs, frz, List.foldl_nil, tv, po, peek, ev, evs, getv, List.getElem?_cons_zero, List.getElem?_cons_succ, Res.bind_ok, Vl.d_val, cmp_le, decide_eq_true hij, Res.to_ok, if_true, if_pos hij, Out.seq_ret]
      try rfl
    · simp only [exss, exs, frz, List.foldl_nil, tv, po, peek, ev, evs, getv, List.getElem?_cons_zero, List.getElem?_cons_succ, Res.bind_ok, Vl.d_val, cmp_le, decide_eq_false hij, Res.to_ok, Bool.false_eq_true, if_false, if_neg hij, Out.seq_nx, Out.seq_ret]
      try rfl
  · refine run_err (e := [.val (limO lo hi), .val (.int i), .val (.int j), .no, .no]) rfl rfl ?_
    show exss c f_Limits_reach.body [.val (limO lo hi), .val (.int i), .val (.int j), .no, .no] = _
    unfold f_Limits_reach
    simp only [exss, exs, frz, List.foldl_nil, t, decide_eq_false h, Bool.not_false, Res.to_ok, if_true, evs, ev, Res.bind_ok, Vl.d_val, Out.seq_err]
theorem sums_get : ∀ (xs : List Int) (z : Int) (k : Nat), k ≤ xs.length → (sums z xs).getD k 0 = z + (xs.take k).sum
  | [], z, k, h => by
    have : k = 0 := by simpa using h
    subst this
    simp [sums]
  | x :: xs, z, 0, h => by simp [sums]
  | x :: xs, z, k + 1, h => by
    rw [List.length_cons] at h
    have := sums_get xs (z + x) k (by omega)
    simp only [sums, List.getD_cons_succ, this, List.take_succ_cons, List.sum_cons]
    omega
/-! ### by_day, recursive -/
def nextOf (days : Int) : List Rw → Int
  | [] => days
  | r :: _ => r.1
def dayR (days : Int) (b : Bool) : List Rw → List Int
  | [] => []
  | r :: rs => List.replicate (nextOf days rs - r.1).toNat (ptOf b r) ++ dayR days b rs
theorem byDay_rec (days : Int) (b : Bool) : ∀ rs : List Rw, byDay days rs b = dayR days b rs
  | [] => rfl
  | r :: rs => by
    have e0 : blk days (r :: rs) b 0 = List.replicate (nextOf days rs - r.1).toNat (ptOf b r) := by
      unfold blk endOf
      cases rs <;> rfl
    have e1 : ∀ k, blk days (r :: rs) b (k + 1) = blk days rs b k := fun k => by
      unfold blk endOf
      simp only [List.getElem?_cons_succ]
    rw [dayR, ← byDay_rec days b rs]
    unfold byDay
    rw [List.length_cons, List.range_succ_eq_map, List.flatMap_cons, e0, List.flatMap_map]
    congr 1
    try exact List.flatMap_congr fun k _ => e1 k
/-- the shortest rows of a list of days -/
def shR : Int → Option (Int × Int) → List (Int × Int) → List Rw
  | _, _, [] => []
  | i, q, p :: B => if q = some p then shR (i + 1) q B else (i, p.1, p.2) :: shR (i + 1) (some p) B
def pB (b : Bool) (p : Int × Int) : Int := if b then p.1 else p.2
theorem shR_next (days : Int) : ∀ (B : List (Int × Int)) (i : Int) (q : Option (Int × Int)), days = i + B.length → i ≤ nextOf days (shR i q B)
  | [], i, q, h => by simp [shR, nextOf] at *; omega
  | p :: B, i, q, h => by
    rw [List.length_cons] at h
    unfold shR
    by_cases e : q = some p
    · rw [if_pos e]
      have := shR_next days B (i + 1) q (by omega)
      omega
    · rw [if_neg e]
      simp [nextOf]
theorem shR_round (days : Int) (b : Bool) : ∀ (B : List (Int × Int)) (i : Int) (p : Int × Int), days = i + B.length →
    List.replicate (nextOf days (shR i (some p) B) - i).toNat (pB b p) ++ dayR days b (shR i (some p) B) = B.map (pB b)
  | [], i, p, h => by simp [shR, nextOf, dayR] at *; omega
  | q :: B, i, p, h => by
    rw [List.length_cons] at h
    unfold shR
    by_cases e : some p = some q
    · rw [if_pos e]
      have hn := shR_next days B (i + 1) (some p) (by omega)
      have ih := shR_round days b B (i + 1) p (by omega)
      have e' := Option.some.inj e
      subst e'
      rw [show (nextOf days (shR (i + 1) (some p) B) - i).toNat = (nextOf days (shR (i + 1) (some p) B) - (i + 1)).toNat + 1 by omega, List.replicate_succ, List.cons_append, ih, List.map_cons]
    · rw [if_neg e]
      have hn := shR_next days B (i + 1) (some q) (by omega)
      have ih := shR_round days b B (i + 1) q (by omega)
      have z : (i - i).toNat = 0 := by omega
      show List.replicate (i - i).toNat (pB b p) ++ (List.replicate (nextOf days (shR (i + 1) (some q) B) - i).toNat (pB b q) ++ dayR days b (shR (i + 1) (some q) B)) = (q :: B).map (pB b)
      rw [z, List.replicate_zero, List.nil_append, List.map_cons, ← ih, show (nextOf days (shR (i + 1) (some q) B) - i).toNat = (nextOf days (shR (i + 1) (some q) B) - (i + 1)).toNat + 1 by omega, List.replicate_succ, List.cons_append]
theorem shR_day (days : Int) (b : Bool) (B : List (Int × Int)) (h : days = B.length) : dayR days b (shR 0 none B) = B.map (pB b) := by
  cases B with
  | nil => rfl
  | cons p B =>
    have := shR_round days b (p :: B) 0 (p.1 + 1, p.2) (by omega)
    have ne : ¬ (some (p.1 + 1, p.2) = some p) := fun e => by
      have := congrArg (fun o => (o.getD p).1) e
      simp at this
      omega
    unfold shR at this ⊢
    rw [if_neg ne] at this
    rw [if_neg (by simp)]
    simpa [nextOf] using this
def useP (p : Int × Int) : Prop := 0 ≤ p.1 ∧ p.1 ≤ p.2 ∧ p.2 ≤ 1000000
/-! ### the days of rows, one by one -/
/-- the last row that has begun at a day -/
def begun (rs : List Rw) (k : Int) : List Rw := rs.filter fun r => decide (r.1 ≤ k)
def lastRow (rs : List Rw) (k : Int) : Rw := (begun rs k).getLastD (0, 0, 0)
/-- rows in order from a day on -/
def asc (days : Int) : Int → List Rw → Prop
  | s, [] => s < days
  | s, r :: rs => s < r.1 ∧ s < days ∧ asc days r.1 rs
theorem asc_all {days : Int} : ∀ {rs : List Rw} {s : Int}, asc days s rs → ∀ r ∈ rs, s < r.1
  | [], _, _, r, h => by cases h
  | x :: rs, s, ⟨h1, h2, h3⟩, r, h => by
    rcases List.mem_cons.mp h with rfl | h
    · exact h1
    · have := asc_all h3 r h
      omega
theorem asc_next {days : Int} : ∀ {rs : List Rw} {s : Int}, asc days s rs → s < nextOf days rs ∧ nextOf days rs ≤ days
  | [], s, h => ⟨h, Int.le_refl _⟩
  | r :: rs, s, ⟨h1, h2, h3⟩ => ⟨h1, by
    cases rs with
    | nil => exact Int.le_of_lt h3
    | cons x rs => exact Int.le_of_lt h3.2.1⟩
theorem dayR_days {days : Int} (b : Bool) : ∀ (rs : List Rw) (r : Rw), asc days r.1 rs →
    dayR days b (r :: rs) = (daysFrom r.1 (days - r.1).toNat).map fun k => ptOf b (lastRow (r :: rs) k)
  | [], r, h => by
    have h' : r.1 < days := h
    simp only [dayR, nextOf, List.append_nil]
    refine (daysFrom_const fun k h1 h2 => ?_).symm
    unfold lastRow begun
    rw [List.filter_cons_of_pos (by simpa using h1)]
    rfl
  | x :: rs, r, ⟨h1, h2, h3⟩ => by
    have n1 := asc_next h3
    rw [show dayR days b (r :: x :: rs) = List.replicate (x.1 - r.1).toNat (ptOf b r) ++ dayR days b (x :: rs) from rfl, dayR_days b rs x h3]
    have hx : x.1 ≤ days := by omega
    rw [show (days - r.1).toNat = (x.1 - r.1).toNat + (days - x.1).toNat by omega, daysFrom_add, List.map_append]
    congr 1
    · symm
      refine daysFrom_const fun k g1 g2 => ?_
      have e1 : begun (r :: x :: rs) k = [r] := by
        unfold begun
        rw [List.filter_cons_of_pos (by simpa using g1), List.filter_eq_nil_iff.mpr]
        intro y hy
        have := asc_all (s := x.1) h3
        have : x.1 ≤ y.1 := by
          rcases List.mem_cons.mp hy with rfl | hy
          · exact Int.le_refl _
          · exact Int.le_of_lt (this y hy)
        simp only [decide_eq_true_eq]
        omega
      unfold lastRow
      rw [e1]
      rfl
    · rw [show r.1 + ((x.1 - r.1).toNat : Int) = x.1 by omega]
      refine List.map_congr_left fun k hk => ?_
      have hk := daysFrom_mem hk
      have e1 : begun (r :: x :: rs) k = r :: begun (x :: rs) k := by
        unfold begun
        rw [List.filter_cons_of_pos (by simp; omega)]
      have e2 : begun (x :: rs) k = x :: begun rs k := by
        unfold begun
        rw [List.filter_cons_of_pos (by simp; omega)]
      unfold lastRow
      rw [e1, e2]
      rfl
/-! ### limits of rows, made -/
theorem chk_asc {days : Int} : ∀ {rs : List Rw} {last : Int}, 0 ≤ last → last < days → chk days last rs = none → asc days last rs
  | [], last, _, h, _ => h
  | r :: rs, last, h0, h, e => by
    unfold chk at e
    by_cases h1 : okRow days last r
    · by_cases h2 : okUse r
      · rw [if_pos h1, if_pos h2] at e
        unfold okRow at h1
        exact ⟨by omega, h, chk_asc (by omega) (by omega) e⟩
      · rw [if_pos h1, if_neg h2] at e
        cases e
    · rw [if_neg h1] at e
      cases e
/-- the lows (the highs) of rows, day by day -/
def ptsOf (b : Bool) (days : Int) (rs : List Rw) : List Int := (daysFrom 0 days.toNat).map fun k => ptOf b (lastRow rs k)
theorem ptsOf_len (b : Bool) (days : Int) (rs : List Rw) : (ptsOf b days rs).length = days.toNat := by
  unfold ptsOf daysFrom
  simp
theorem mk_facts {days : Int} {rs : List Rw} (h : mkErr days rs = none) : 1 ≤ days ∧ days ≤ 400 ∧ ∃ r rs', rs = r :: rs' ∧ r.1 = 0 ∧ asc days 0 rs' ∧ ∀ x ∈ rs, okUse x := by
  unfold mkErr at h
  by_cases h1 : 1 ≤ days ∧ days ≤ 400
  · rw [if_pos h1] at h
    refine ⟨h1.1, h1.2, ?_⟩
    unfold chkAll at h
    cases rs with
    | nil => rw [if_pos rfl] at h; cases h
    | cons r rs =>
      rw [if_neg (by simp)] at h
      have f := (chk_facts days (r :: rs) (-1) (by omega) h).1
      unfold chk at h
      by_cases a : okRow days (-1) r
      · by_cases b : okUse r
        · rw [if_pos a, if_pos b] at h
          unfold okRow at a
          have r0 : r.1 = 0 := by omega
          refine ⟨r, rs, rfl, r0, ?_, fun x hx => (f x hx).2.2⟩
          have := chk_asc (days := days) (rs := rs) (last := r.1) (by omega) (by omega) h
          rw [r0] at this
          exact this
        · rw [if_pos a, if_neg b] at h
          cases h
      · rw [if_neg a] at h
        cases h
  · rw [if_neg h1] at h
    cases h
theorem byDay_pts {days : Int} {rs : List Rw} (b : Bool) (h : mkErr days rs = none) : byDay days rs b = ptsOf b days rs := by
  obtain ⟨h1, h2, r, rs', rfl, r0, ha, _⟩ := mk_facts h
  rw [byDay_rec, dayR_days b rs' r (by rw [r0]; exact ha), r0]
  unfold ptsOf
  rw [show days - 0 = days by omega]
theorem begun_ne {days : Int} {rs : List Rw} (h : mkErr days rs = none) {k : Int} (hk : 0 ≤ k) : ∃ x, (begun rs k).getLast? = some x ∧ lastRow rs k = x ∧ x ∈ rs := by
  obtain ⟨h1, h2, r, rs', rfl, r0, ha, _⟩ := mk_facts h
  have e : begun (r :: rs') k = r :: begun rs' k := by
    unfold begun
    rw [List.filter_cons_of_pos (by simp; omega)]
  obtain ⟨x, hx⟩ : ∃ x, (begun (r :: rs') k).getLast? = some x := by
    rw [e]
    exact ⟨_, List.getLast?_eq_some_getLast (by simp)⟩
  refine ⟨x, hx, ?_, ?_⟩
  · unfold lastRow
    rw [List.getLastD_eq_getLast?, hx]
    rfl
  · have := List.mem_of_getLast? hx
    exact (List.mem_filter.mp this).1
theorem pts_use {days : Int} {rs : List Rw} (h : mkErr days rs = none) : ∀ p ∈ (ptsOf true days rs).zip (ptsOf false days rs), useP p := fun p hp => by
  unfold ptsOf at hp
  rw [List.zip_map', List.mem_map] at hp
  obtain ⟨k, hk, rfl⟩ := hp
  have hk := daysFrom_mem hk
  obtain ⟨x, _, e, hx⟩ := begun_ne h (k := k) (by omega)
  obtain ⟨_, _, _, _, _, _, _, hu⟩ := mk_facts h
  rw [e]
  exact hu x hx
theorem made_ok (k : Nat) (days : Int) (rs : List Rw) :
    (mkErr days rs = none ∧ runFn f_Limits_init (S8 (k + 1)) [.int days, .lst (rs.map rowD)] = .ok (.val (limO (ptsOf true days rs) (ptsOf false days rs)))) ∨
    ∃ e fs, mkErr days rs = some e ∧ runFn f_Limits_init (S8 (k + 1)) [.int days, .lst (rs.map rowD)] = .err e fs := by
  rcases init_ok k days rs (fun b h => by
    rw [byDay_pts b h, ptsOf_len]
    have := mk_facts h
    omega) with ⟨a, q⟩ | q
  · refine .inl ⟨a, ?_⟩
    rw [q, byDay_pts _ a, byDay_pts _ a]
    unfold limI limO
    rw [ptsOf_len]
    have := mk_facts a
    rw [show ((days.toNat : Nat) : Int) = days by omega]
  · exact .inr q
theorem mk_len {days : Int} {rs : List Rw} (h : mkErr days rs = none) : rs.length ≤ 400 := by
  obtain ⟨h1, h2, r, rs', rfl, r0, ha, _⟩ := mk_facts h
  unfold mkErr at h
  rw [if_pos ⟨h1, h2⟩] at h
  unfold chkAll at h
  rw [if_neg (by simp)] at h
  have := (chk_facts days (r :: rs') (-1) (by omega) h).2 (by simp)
  omega
def lastOf : Int → List Rw → Int
  | l, [] => l
  | _, r :: rs => lastOf r.1 rs
theorem lastOf_snoc (r : Rw) : ∀ (rs : List Rw) (l : Int), lastOf l (rs ++ [r]) = r.1
  | [], l => rfl
  | x :: rs, l => lastOf_snoc r rs x.1
theorem chk_snoc {days : Int} {r : Rw} (hu : okUse r) : ∀ (rs : List Rw) (l : Int), chk days l rs = none → okRow days (lastOf l rs) r → chk days l (rs ++ [r]) = none
  | [], l, _, h => by
    have h' : okRow days l r := h
    rw [List.nil_append]
    unfold chk
    rw [if_pos h', if_pos hu]
    rfl
  | x :: rs, l, h, h2 => by
    unfold chk at h
    rw [List.cons_append]
    unfold chk
    by_cases a : okRow days l x
    · by_cases b : okUse x
      · rw [if_pos a, if_pos b] at h ⊢
        exact chk_snoc hu rs x.1 h h2
      · rw [if_pos a, if_neg b] at h
        cases h
    · rw [if_neg a] at h
      cases h
theorem call_5 (k : Nat) : sem (tblOf T) 0 (k + 1) 5 = runFn f_Limits_least (S8 k) := sem_f k 5 _ rfl
theorem call_6 (k : Nat) : sem (tblOf T) 0 (k + 1) 6 = runFn f_Limits_most (S8 k) := sem_f k 6 _ rfl
theorem call_7 (k : Nat) : sem (tblOf T) 0 (k + 1) 7 = runFn f_Limits_reach (S8 k) := sem_f k 7 _ rfl
end PL.K22

set_option linter.all false
set_option Elab.async false
set_option maxRecDepth 100000
set_option maxHeartbeats 1000000
/-! The plain law of k22. -/
namespace PL.K22
open PySem (Str)
theorem s8 (k f : Nat) (ds : List D) : (S8 (k + 1)).call f ds = sem (tblOf T) 0 (k + 1) f ds := rfl
/-! ### limits, plainly -/
theorem tt {c : Ctx} {e : E} {env : Env} {b : Bool} (h : ev c e env = .ok (.val (.bl b))) : tv c (.not (.v (.e e))) env = .ok (!b) := by
  simp only [tv, po, h, Res.bind_ok, Vl.d_val, truth]
theorem ttF {c : Ctx} {e : E} {env : Env} (h : ev c e env = .ok (.val (.bl true))) : tv c (.not (.v (.e e))) env = .ok false := tt h
theorem orF {c : Ctx} {a b : PL.T} {env : Env} (h1 : tv c a env = .ok false) (h2 : tv c b env = .ok false) : tv c (.or a b) env = .ok false := by
  rw [tv, h1]
  exact h2
theorem abt {c : Ctx} {a b : E} {env : Env} (h1 : ev c a env = .ok (.val (.bl true))) (h2 : ev c b env = .ok (.val (.bl true))) : ev c (.and a b) env = .ok (.val (.bl true)) := by
  rw [ev, h1]
  simp only [Res.bind_ok, asBool, if_true, h2]
theorem abs_ok (i : Int) : b1 .abs (.int i) = .ok (.val (.int i.natAbs)) := by
  simp only [b1]
  by_cases h : i < 0
  · rw [if_pos h, show (i.natAbs : Int) = -i by omega]
  · rw [if_neg h, show (i.natAbs : Int) = i by omega]
theorem cmp_bb (a b : Bool) : cmp .eq (.bl a) (.bl b) = .ok (a == b) := by simp [cmp, eqOk, eqD]
theorem tup2 {c : Ctx} {a b : E} {env : Env} {x y : Int} (h1 : ev c a env = .ok (.val (.int x))) (h2 : ev c b env = .ok (.val (.int y))) : ev c (.tup [a, b]) env = .ok (.val (prD (x, y))) := by
  simp only [ev, evs, h1, h2, Res.bind_ok, Vl.d_val, List.length_cons, List.length_nil]
  rfl
theorem tup3 {c : Ctx} {a b d : E} {env : Env} {x y z : Int} (h1 : ev c a env = .ok (.val (.int x))) (h2 : ev c b env = .ok (.val (.int y))) (h3 : ev c d env = .ok (.val (.int z))) : ev c (.tup [a, b, d]) env = .ok (.val (rowD (x, y, z))) := by
  simp only [ev, evs, h1, h2, h3, Res.bind_ok, Vl.d_val, List.length_cons, List.length_nil]
  rfl
abbrev Sp := Int × Int
/-- limits of days -/
structure Lm (lo hi : List Int) : Prop where
  len : hi.length = lo.length
  pos : 1 ≤ lo.length
  top : lo.length ≤ 400
  le : ∀ p ∈ lo.zip hi, p.1 ≤ p.2
theorem sumAt_take (xs : List Int) (k : Nat) (h : k ≤ xs.length) : sumAt xs k = (xs.take k).sum := by
  unfold sumAt
  rw [show ((k : Int)).toNat = k by omega, sums_get xs 0 k h]
  omega
theorem gap_mono : ∀ (lo hi : List Int), hi.length = lo.length → (∀ p ∈ lo.zip hi, p.1 ≤ p.2) → ∀ i j : Nat, i ≤ j → (lo.take j).sum - (lo.take i).sum ≤ (hi.take j).sum - (hi.take i).sum
  | [], hi, hl, _, i, j, _ => by
    have : hi = [] := List.eq_nil_of_length_eq_zero (by simpa using hl)
    rw [this]
    simp
  | x :: lo, [], hl, _, _, _, _ => by simp at hl
  | x :: lo, y :: hi, hl, h, 0, 0, _ => by simp
  | x :: lo, y :: hi, hl, h, 0, j + 1, _ => by
    have a := gap_mono lo hi (by simpa using hl) (fun p hp => h p (List.mem_cons_of_mem _ hp)) 0 j (by omega)
    have b := h (x, y) List.mem_cons_self
    simp only [List.take_succ_cons, List.sum_cons, List.take_zero, List.sum_nil] at a b ⊢
    omega
  | x :: lo, y :: hi, hl, h, i + 1, j + 1, hij => by
    have a := gap_mono lo hi (by simpa using hl) (fun p hp => h p (List.mem_cons_of_mem _ hp)) i j (by omega)
    simp only [List.take_succ_cons, List.sum_cons]
    omega
  | x :: lo, y :: hi, hl, h, i + 1, 0, hij => by omega
def dA (lo : List Int) (i j : Int) : Int := sumAt lo j - sumAt lo i
/-- what can be used from i to j -/
def rch (lo hi : List Int) (i j : Int) : Sp := (min (dA lo i j) (dA hi i j), max (dA lo i j) (dA hi i j))
theorem dA_le {lo hi : List Int} (L : Lm lo hi) {i j : Int} (h0 : 0 ≤ i) (hij : i ≤ j) (hj : j ≤ lo.length) : dA lo i j ≤ dA hi i j := by
  have g := gap_mono lo hi L.len L.le i.toNat j.toNat (by omega)
  have := L.len
  have e1 := sumAt_take lo i.toNat (by omega)
  have e2 := sumAt_take lo j.toNat (by omega)
  have e3 := sumAt_take hi i.toNat (by omega)
  have e4 := sumAt_take hi j.toNat (by omega)
  rw [show ((i.toNat : Nat) : Int) = i by omega] at e1 e3
  rw [show ((j.toNat : Nat) : Int) = j by omega] at e2 e4
  unfold dA
  omega
theorem dA_neg (lo : List Int) (i j : Int) : dA lo i j = - dA lo j i := by
  unfold dA
  omega
theorem rch_ok {lo hi : List Int} (L : Lm lo hi) {i j : Int} (hi0 : 0 ≤ i ∧ i ≤ lo.length) (hj0 : 0 ≤ j ∧ j ≤ lo.length) : reachR lo hi i j = prD (rch lo hi i j) := by
  unfold reachR rch prD
  by_cases h : i ≤ j
  · have := dA_le L hi0.1 h hj0.2
    unfold dA at this ⊢
    rw [if_pos h, Int.min_eq_left this, Int.max_eq_right this]
  · have := dA_le L hj0.1 (show j ≤ i by omega) hi0.2
    rw [dA_neg lo j i, dA_neg hi j i] at this
    rw [if_neg h, Int.min_eq_right (by omega), Int.max_eq_left (by omega)]
    rfl
theorem reach7 (k : Nat) {lo hi : List Int} (L : Lm lo hi) {i j : Int} (hi0 : 0 ≤ i ∧ i ≤ lo.length) (hj0 : 0 ≤ j ∧ j ≤ lo.length) : (S8 (k + 1)).call 7 [limO lo hi, .int i, .int j] = .ok (.val (prD (rch lo hi i j))) := by
  rw [s8, call_7, ((reach_ok (S8 k) lo hi L.len.symm i j).1 ⟨hi0, hj0⟩), rch_ok L hi0 hj0]
def joinB (lo hi : List Int) (s t : Sp) : Bool := decide ((rch lo hi s.1 t.1).1 ≤ t.2 - s.2) && decide (t.2 - s.2 ≤ (rch lo hi s.1 t.1).2)
/-- slips within these days -/
def okS (lo : List Int) (s : Sp) : Prop := (0 ≤ s.1 ∧ s.1 ≤ lo.length) ∧ s.2.natAbs ≤ 1000000000
/-! ### the program's functions -/
theorem call_12 (k : Nat) : sem (tblOf T) 0 (k + 1) 12 = runFn f_lowest_at (S8 k) := sem_f k 12 _ rfl
theorem call_13 (k : Nat) : sem (tblOf T) 0 (k + 1) 13 = runFn f_lowest_of (S8 k) := sem_f k 13 _ rfl
theorem call_14 (k : Nat) : sem (tblOf T) 0 (k + 1) 14 = runFn f_check_notes (S8 k) := sem_f k 14 _ rfl
theorem call_15 (k : Nat) : sem (tblOf T) 0 (k + 1) 15 = runFn f_apart (S8 k) := sem_f k 15 _ rfl
theorem call_16 (k : Nat) : sem (tblOf T) 0 (k + 1) 16 = runFn f_found_clash (S8 k) := sem_f k 16 _ rfl
theorem call_17 (k : Nat) : sem (tblOf T) 0 (k + 1) 17 = runFn f_first_clash (S8 k) := sem_f k 17 _ rfl
theorem call_18 (k : Nat) : sem (tblOf T) 0 (k + 1) 18 = runFn f_refuse_clash (S8 k) := sem_f k 18 _ rfl
theorem call_19 (k : Nat) : sem (tblOf T) 0 (k + 1) 19 = runFn f_check_slips (S8 k) := sem_f k 19 _ rfl
theorem call_20 (k : Nat) : sem (tblOf T) 0 (k + 1) 20 = runFn f_joinable (S8 k) := sem_f k 20 _ rfl
theorem call_21 (k : Nat) : sem (tblOf T) 0 (k + 1) 21 = runFn f_in_order (S8 k) := sem_f k 21 _ rfl
theorem call_22 (k : Nat) : sem (tblOf T) 0 (k + 1) 22 = runFn f_of_one_meter (S8 k) := sem_f k 22 _ rfl
theorem call_23 (k : Nat) : sem (tblOf T) 0 (k + 1) 23 = runFn f_slip_order (S8 k) := sem_f k 23 _ rfl
theorem call_24 (k : Nat) : sem (tblOf T) 0 (k + 1) 24 = runFn f_history_through (S8 k) := sem_f k 24 _ rfl
theorem call_25 (k : Nat) : sem (tblOf T) 0 (k + 1) 25 = runFn f_refuse (S8 k) := sem_f k 25 _ rfl
theorem call_26 (k : Nat) : sem (tblOf T) 0 (k + 1) 26 = runFn f_lowest (S8 k) := sem_f k 26 _ rfl
theorem fldd (c : Ctx) (lo hi : List Int) (r : Env) : ev c (.fld (.v 0) 0 0) (.val (limO lo hi) :: r) = .ok (.val (.int lo.length)) := fld_0 c lo hi r
theorem v0 (c : Ctx) (lo hi : List Int) (r : Env) : ev c (.v 0) (.val (limO lo hi) :: r) = .ok (.val (limO lo hi)) := by simp only [ev, evs, getv, po, pt, peek, peekT, List.getElem?_cons_succ, List.getElem?_cons_zero, Res.bind_ok, Vl.d_val, Vl.d_own]
theorem join_ok (k : Nat) {lo hi : List Int} (L : Lm lo hi) {s t : Sp} (hs : okS lo s) (ht : okS lo t) : runFn f_joinable (S8 (k + 1)) [limO lo hi, prD s, prD t] = .ok (.val (.bl (joinB lo hi s t))) := by
  refine run_ret rfl rfl ?_
  show exss (S8 (k + 1)) f_joinable.body [.val (limO lo hi), .val (prD s), .val (prD t), .no, .no] = _
  have c7 := ev_mth (c := S8 (k + 1)) (env := [.val (limO lo hi), .val (prD s), .val (prD t), .no, .no]) (o := .v 0) (es := [.p (.e (.ix (.s 1) (.e (.int 0)))), .p (.e (.ix (.s 2) (.e (.int 0))))]) (ds := [.int s.1, .int t.1]) (v0 _ _ _ _) (by simp only [args, arg, ev, evs, getv, po, pt, peek, peekT, List.getElem?_cons_succ, List.getElem?_cons_zero, Res.bind_ok, Vl.d_val, Vl.d_own, pr_0]) (reach7 k L hs.1 ht.1)
  unfold f_joinable
  refine st_asgt c7 rfl (st_ret ?_)
  simp only [List.foldl_cons, List.foldl_nil, List.zip_cons_cons, List.zip_nil_left, List.zip_nil_right, List.set_cons_succ, List.set_cons_zero, ev, evs, getv, po, pt, peek, peekT, List.getElem?_cons_succ, List.getElem?_cons_zero, Res.bind_ok, Vl.d_val, Vl.d_own, pr_1, bin_sub, cmp_le, ofB]
  unfold joinB
  by_cases h : (rch lo hi s.1 t.1).1 ≤ t.2 - s.2
  · simp [h]
  · simp [h]
theorem chks_ok (c : Ctx) {lo hi : List Int} (L : List Sp) (hl : L.length ≤ 40) (h : ∀ s ∈ L, okS lo s) : runFn f_check_slips c [limO lo hi, .lst (L.map prD)] = .ok (.val .non) := by
  obtain ⟨e2, l, x2, x3, J⟩ := for_keep (tg := .t [2, 3]) (body := exss c [.ite [] (.not (.ch2 .le .le (.e (.int 0)) (.s 2) (.e (.fld (.v 0) 0 0)))) [.rais 1 [.str "moment of a slip"]] [], .ite [] (.cmp .gt (.e (.b1 .abs (.s 3))) (.e (.g 3 (.int (1000000000))))) [.rais 1 [.str "total of a slip"]] []]) prD (fun env => ∃ x2 x3, env = [.val (limO lo hi), .pk (L.map prD), x2, x3]) L [.val (limO lo hi), .pk (L.map prD), .no, .no] (fun s hs env ⟨x2, x3, he⟩ => by
    rw [he]
    have o := h s hs
    unfold okS at o
    refine ⟨[.val (limO lo hi), .pk (L.map prD), .val (.int s.1), .val (.int s.2)], rfl, [.val (limO lo hi), .pk (L.map prD), .val (.int s.1), .val (.int s.2)], .inl ?_, _, _, rfl⟩
    refine st_no ?_ (st_no ?_ rfl)
    · rw [tv, tv]
      simp only [po, peek, List.getElem?_cons_zero, List.getElem?_cons_succ, ↓fldd, ev, Res.bind_ok, Vl.d_val, cmp_le, decide_eq_true o.1.1, if_true, decide_eq_true o.1.2, Bool.not_true]
    · simp only [tv, ev, evs, getv, po, pt, peek, peekT, List.getElem?_cons_succ, List.getElem?_cons_zero, Res.bind_ok, Vl.d_val, Vl.d_own, abs_ok, cmp_gt]
      rw [decide_eq_false (by omega)]) ⟨_, _, rfl⟩
  refine run_nx (e := e2) rfl rfl ?_
  show exss c f_check_slips.body [.val (limO lo hi), .pk (L.map prD), .no, .no] = _
  unfold f_check_slips
  refine st_no ?_ (st_for (by simp only [itsF, List.getElem?_cons_succ, List.getElem?_cons_zero]) l rfl)
  simp only [tv, ev, evs, getv, po, pt, peek, peekT, List.getElem?_cons_succ, List.getElem?_cons_zero, Res.bind_ok, Vl.d_val, Vl.d_own, b1, len, List.length_map, cmp_gt]
  rw [decide_eq_false (by omega)]
theorem chks19 (k : Nat) {lo hi : List Int} (L : List Sp) (hl : L.length ≤ 40) (h : ∀ s ∈ L, okS lo s) : (S8 (k + 1)).call 19 [limO lo hi, .lst (L.map prD)] = .ok (.val .non) := by
  rw [s8, call_19]
  exact chks_ok _ L hl h
theorem oneM_ok (k : Nat) {lo hi : List Int} (L : Lm lo hi) {s t : Sp} (hs : okS lo s) (ht : okS lo t) : runFn f_of_one_meter (S8 (k + 2)) [limO lo hi, prD s, prD t] = .ok (.val (.bl (joinB lo hi s t))) := by
  refine run_ret rfl rfl ?_
  show exss (S8 (k + 2)) f_of_one_meter.body [.val (limO lo hi), .val (prD s), .val (prD t)] = _
  have g20 : (S8 (k + 2)).call 20 [limO lo hi, prD s, prD t] = .ok (.val (.bl (joinB lo hi s t))) := by rw [s8, call_20]; exact join_ok k L hs ht
  unfold f_of_one_meter
  refine st_ex (ev_call (ds := [limO lo hi, .lst ([s, t].map prD)]) (by simp only [args, arg, ev, evs, getv, po, pt, peek, peekT, List.getElem?_cons_succ, List.getElem?_cons_zero, Res.bind_ok, Vl.d_val, Vl.d_own]; rfl) (chks19 (k + 1) [s, t] (by simp) fun x hx => ?_)) (st_ret (ev_call (by simp only [args, arg, ev, evs, getv, po, pt, peek, peekT, List.getElem?_cons_succ, List.getElem?_cons_zero, Res.bind_ok, Vl.d_val, Vl.d_own]) g20))
  rcases List.mem_cons.mp hx with rfl | hx
  · exact hs
  · rw [List.mem_singleton] at hx
    rw [hx]
    exact ht
/-! ### the order -/
abbrev Rw3 := Int × Int × Int
def trip (L : List Sp) : List Rw3 := (daysFrom 0 L.length).map fun k => ((L.getD k.toNat (0, 0)).1, (L.getD k.toNat (0, 0)).2, k)
def sortT (L : List Sp) : List Rw3 := (trip L).mergeSort le3
def ordOf (L : List Sp) : List Int := (sortT L).map fun t => t.2.2
theorem tripsOf_map : ∀ L : List Rw3, tripsOf (L.map rowD) = some L
  | [] => rfl
  | p :: L => by simp [rowD, tripsOf]; exact tripsOf_map L
theorem sort3_ok (L : List Rw3) : b1 .sorted (.lst (L.map rowD)) = .ok (.own ((L.mergeSort le3).map rowD)) := by
  cases L with
  | nil => simp [b1, sortD, intsOf, listI]
  | cons p L =>
    have e1 : intsOf ((p :: L).map rowD) = none := rfl
    have e2 : pairsOf ((p :: L).map rowD) = none := rfl
    simp only [b1, sortD, e1, e2, tripsOf_map]
    rfl
theorem sortT_len (L : List Sp) : (sortT L).length = L.length := by
  unfold sortT
  rw [(List.mergeSort_perm _ _).length_eq]
  unfold trip
  rw [List.length_map, daysFrom_len]
theorem pix {L : List Sp} {i : Int} (h0 : 0 ≤ i) (h1 : i < L.length) : index (.lst (L.map prD)) (.int i) = .ok (prD (L.getD i.toNat (0, 0))) := by
  refine index_map prD h0 ?_
  rw [List.getD_eq_getElem?_getD, List.getElem?_eq_getElem (by omega), Option.getD_some]
/-- the comprehension that gives the triples -/
theorem trip_comp (c : Ctx) (L : List Sp) (hl : L.length ≤ 1000) (a z : Nat) (env : Env) (hp : ∀ v, peek ((wipeE env [z]).set z v) a = .ok (.lst (L.map prD))) (hp0 : peek env a = .ok (.lst (L.map prD))) (hz : ∀ v, getv ((wipeE env [z]).set z (.val v)) z = .ok (.val v)) (hz2 : ∀ v, peek ((wipeE env [z]).set z (.val v)) z = .ok v) :
    ev c (.comp (.n z) (.r1 (.b1 .len (.s a))) [] (.tup [.ix (.e (.ix (.s a) (.s z))) (.e (.int 0)), .ix (.e (.ix (.s a) (.s z))) (.e (.int 1)), .v z]) [z]) env = .ok (.own ((trip L).map rowD)) := by
  have hS := SLe
  rw [ev_comp (its_r1 (n := L.length) (by simp only [ev, po, hp0, Res.bind_ok, b1, len, List.length_map, Vl.d_val]) (inR_s (by omega) (by omega))), comp_mp D.int (fun k => rowD ((L.getD k.toNat (0, 0)).1, (L.getD k.toNat (0, 0)).2, k)) _ [] (fun k hk => ?_) (by rw [daysFrom_len, List.length_nil]; omega)]
  · unfold trip
    rw [List.map_map]
    rfl
  · have hd := daysFrom_mem hk
    have i0 := pix (L := L) hd.1 (by omega)
    have t3 := tup3 (c := c) (a := .ix (.e (.ix (.s a) (.s z))) (.e (.int 0))) (b := .ix (.e (.ix (.s a) (.s z))) (.e (.int 1))) (d := .v z) (env := (wipeE env [z]).set z (.val (.int k))) (x := (L.getD k.toNat (0, 0)).1) (y := (L.getD k.toNat (0, 0)).2) (z := k)
      (by simp only [ev, po, hp, hz2, Res.bind_ok, i0, Vl.d_val, pr_0]) (by simp only [ev, po, hp, hz2, Res.bind_ok, i0, Vl.d_val, pr_1]) (by rw [ev, hz])
    simp only [turnD, setT, tvs, Res.bind_ok, if_true, ↓t3, Vl.d_val]
theorem inord_ok (c : Ctx) (L : List Sp) (hl : L.length ≤ 1000) : runFn f_in_order c [.lst (L.map prD)] = .ok (.own ((ordOf L).map .int)) := by
  have hS := SLe
  refine run_ret rfl rfl ?_
  show exss c f_in_order.body [.pk (L.map prD), .no, .no, .no, .no, .no] = _
  have tc := trip_comp c L hl 0 2 [.pk (L.map prD), .no, .no, .no, .no, .no] (fun v => rfl) rfl (fun v => rfl) (fun v => rfl)
  unfold f_in_order
  refine st_asg (v := .own ((sortT L).map rowD)) ?_ (st_ret ?_)
  · rw [ev]
    simp only [po, ↓tc, Res.bind_ok, Vl.d_own, sort3_ok]
    rfl
  · simp only [List.set_cons_succ, List.set_cons_zero, Vl.sl_val, Vl.sl_own]
    rw [ev_comp (ds := (sortT L).map rowD) (by simp only [its, ev, evs, getv, po, pt, peek, peekT, List.getElem?_cons_succ, List.getElem?_cons_zero, Res.bind_ok, Vl.d_val, Vl.d_own, walkOf]), comp_mp rowD (fun t => .int t.2.2) _ [] (fun t _ => ?_) (by rw [sortT_len, List.length_nil]; omega)]
    · unfold ordOf
      rw [List.map_map]
      rfl
    · rfl
theorem order_ok (k : Nat) {lo hi : List Int} (L : List Sp) (hl : L.length ≤ 40) (h : ∀ s ∈ L, okS lo s) : runFn f_slip_order (S8 (k + 1)) [limO lo hi, .lst (L.map prD)] = .ok (.own ((ordOf L).map .int)) := by
  refine run_ret rfl rfl ?_
  show exss (S8 (k + 1)) f_slip_order.body [.val (limO lo hi), .pk (L.map prD)] = _
  have g21 : (S8 (k + 1)).call 21 [.lst (L.map prD)] = .ok (.own ((ordOf L).map .int)) := by rw [s8, call_21]; exact inord_ok _ L (by omega)
  unfold f_slip_order
  exact st_ex (ev_call (by simp only [args, arg, ev, evs, getv, po, pt, peek, peekT, List.getElem?_cons_succ, List.getElem?_cons_zero, Res.bind_ok, Vl.d_val, Vl.d_own]) (chks19 (hi := hi) k L hl h)) (st_ret (ev_call (by simp only [args, arg, ev, evs, getv, po, pt, peek, peekT, List.getElem?_cons_succ, List.getElem?_cons_zero, Res.bind_ok, Vl.d_val, Vl.d_own]) g21))
/-! ### the first pair -/
def inn (q : Int → Int → Bool) (n : Nat) (i : Int) : Option Int := (daysFrom (i + 1) ((n : Int) - (i + 1)).toNat).find? fun j => q i j
def outP (q : Int → Int → Bool) (n : Nat) : Option Int := (daysFrom 0 n).find? fun i => (inn q n i).isSome
def pairO (q : Int → Int → Bool) (n : Nat) : Option Sp := (outP q n).map fun i => (i, (inn q n i).getD 0)
def pairD' (o : Option Sp) : D := match o with
  | some p => prD p
  | none => .non
theorem dbl {c : Ctx} {a b : Nat} {T : PL.T} {lim : E} {n : Nat} (hn : n ≤ 1000) (q : Int → Int → Bool) (F : Sl → Sl → Env) (h1 : ∀ d x y, setT (.n a) d (F x y) = some (F (.val d) y)) (h2 : ∀ d x y, setT (.n b) d (F x y) = some (F x (.val d)))
    (ht : ∀ i j : Int, 0 ≤ i → i < j → j < n → tv c T (F (.val (.int i)) (.val (.int j))) = .ok (q i j)) (ga : ∀ d y, getv (F (.val d) y) a = .ok (.val d)) (gb : ∀ d x, getv (F x (.val d)) b = .ok (.val d)) (pa : ∀ d y, peekT (F (.val d) y) a = .ok d)
    (hl : ∀ x y, ev c lim (F x y) = .ok (.val (.int n))) (x y : Sl) :
    (∃ p, pairO q n = some p ∧ forLoop (.n a) (exss c [.forl [] (.n b) (.r2 (.bin .add (.s a) (.e (.int 1))) lim) [.ite [] T [.ret [] (.tup [.v a, .v b])] []]]) ((daysFrom 0 n).map D.int) (F x y) = .ret (.val (prD p))) ∨
    (pairO q n = none ∧ ∃ x' y', forLoop (.n a) (exss c [.forl [] (.n b) (.r2 (.bin .add (.s a) (.e (.int 1))) lim) [.ite [] T [.ret [] (.tup [.v a, .v b])] []]]) ((daysFrom 0 n).map D.int) (F x y) = .nx (F x' y')) := by
  have r := for_find (tg := .n a) (body := exss c [.forl [] (.n b) (.r2 (.bin .add (.s a) (.e (.int 1))) lim) [.ite [] T [.ret [] (.tup [.v a, .v b])] []]]) D.int (fun i => (inn q n i).isSome) (fun i => .val (prD (i, (inn q n i).getD 0))) (fun env => ∃ x y, env = F x y) (daysFrom 0 n) (F x y) (fun i hi env ⟨x, y, he⟩ => by
    rw [he]
    have hd := daysFrom_mem hi
    have it : itsF c (.r2 (.bin .add (.s a) (.e (.int 1))) lim) (F (.val (.int i)) y) = .ok ((daysFrom (i + 1) ((n : Int) - (i + 1)).toNat).map D.int) := itsF_r2 (a := i + 1) (b := n) (by simp only [ev, pt, pa, Res.bind_ok, Vl.d_val, bin_add]) (hl _ _) (inR_s (by omega) (by omega)) (inR_s (by omega) (by omega))
    have s := for_find (tg := .n b) (body := exss c [.ite [] T [.ret [] (.tup [.v a, .v b])] []]) D.int (fun j => q i j) (fun j => .val (prD (i, j))) (fun env => ∃ y, env = F (.val (.int i)) y) (daysFrom (i + 1) ((n : Int) - (i + 1)).toNat) (F (.val (.int i)) y) (fun j hj env ⟨y, he⟩ => by
      rw [he]
      have hdj := daysFrom_mem hj
      have t := ht i j hd.1 (by omega) (by omega)
      refine ⟨F (.val (.int i)) (.val (.int j)), h2 _ _ _, fun h => ?_, fun h => ⟨F (.val (.int i)) (.val (.int j)), ?_, .val (.int j), rfl⟩⟩
      · rw [h] at t
        exact st_yesR t (st_ret (tup2 (by rw [ev, ga]) (by rw [ev, gb])))
      · rw [h] at t
        exact st_no t rfl) ⟨y, rfl⟩
    refine ⟨F (.val (.int i)) y, h1 _ _ _, fun h => ?_, fun h => ?_⟩
    · rcases s with ⟨j, hj, l⟩ | ⟨hn, _⟩
      · have : inn q n i = some j := hj
        rw [this]
        exact st_forR it l
      · have : inn q n i = none := hn
        rw [this] at h
        cases h
    · rcases s with ⟨j, hj, l⟩ | ⟨hn, e2, l, y2, J⟩
      · have : inn q n i = some j := hj
        rw [this] at h
        cases h
      · rw [J] at l
        exact ⟨F (.val (.int i)) y2, st_for it l rfl, .val (.int i), y2, rfl⟩) ⟨x, y, rfl⟩
  rcases r with ⟨i, hi, l⟩ | ⟨hn, e2, l, x2, y2, J⟩
  · refine .inl ⟨(i, (inn q n i).getD 0), ?_, l⟩
    unfold pairO
    rw [show outP q n = some i from hi]
    rfl
  · refine .inr ⟨?_, x2, y2, ?_⟩
    · unfold pairO
      rw [show outP q n = none from hn]
      rfl
    · rw [l, J]
theorem pairO_mem {q : Int → Int → Bool} {n : Nat} {p : Sp} (h : pairO q n = some p) : 0 ≤ p.1 ∧ p.1 < n ∧ 0 ≤ p.2 ∧ p.2 < n := by
  unfold pairO at h
  cases e : outP q n with
  | none => rw [e] at h; cases h
  | some i =>
    rw [e] at h
    simp only [Option.map_some, Option.some.injEq] at h
    subst h
    have d := daysFrom_mem (List.mem_of_find?_eq_some e)
    have s : (inn q n i).isSome = true := List.find?_some (p := fun i => (inn q n i).isSome) (l := daysFrom 0 n) e
    cases f : inn q n i with
    | none => rw [f] at s; cases s
    | some j =>
      have d2 := daysFrom_mem (List.mem_of_find?_eq_some f)
      simp only [Option.getD_some]
      omega
/-! ### notes -/
def gS (L : List Sp) (i : Int) : Sp := L.getD i.toNat (0, 0)
def nt (s : Sp) : Rw3 := (s.1, s.2, s.2)
def qJ (lo hi : List Int) (L : List Sp) (i j : Int) : Bool := !joinB lo hi (gS L i) (gS L j)
def fa (lo hi : List Int) (L : List Sp) : Option Sp := pairO (qJ lo hi L) L.length
theorem rw_0 (r : Rw3) : index (rowD r) (.int 0) = .ok (.int r.1) := rfl
theorem rw_1 (r : Rw3) : index (rowD r) (.int 1) = .ok (.int r.2.1) := rfl
theorem rw_2 (r : Rw3) : index (rowD r) (.int 2) = .ok (.int r.2.2) := rfl
theorem gS_ok {lo : List Int} {L : List Sp} (h : ∀ s ∈ L, okS lo s) {i : Int} (h0 : 0 ≤ i) (h1 : i < L.length) : okS lo (gS L i) := by
  unfold gS
  rw [List.getD_eq_getElem?_getD, List.getElem?_eq_getElem (by omega), Option.getD_some]
  exact h _ (List.getElem_mem _)
theorem nix {L : List Sp} {i : Int} (h0 : 0 ≤ i) (h1 : i < L.length) : index (.lst ((L.map nt).map rowD)) (.int i) = .ok (rowD (nt (gS L i))) := by
  refine index_map rowD h0 ?_
  unfold gS
  rw [List.getElem?_map, List.getD_eq_getElem?_getD, List.getElem?_eq_getElem (by omega), Option.getD_some]
  rfl
theorem apart_ok (k : Nat) {lo hi : List Int} (L : Lm lo hi) {s t : Sp} (hs : okS lo s) (ht : okS lo t) : runFn f_apart (S8 (k + 1)) [limO lo hi, rowD (nt s), rowD (nt t)] = .ok (.val (.bl (!joinB lo hi s t))) := by
  refine run_ret rfl rfl ?_
  show exss (S8 (k + 1)) f_apart.body [.val (limO lo hi), .val (rowD (nt s)), .val (rowD (nt t)), .no, .no] = _
  have c7 := ev_mth (c := S8 (k + 1)) (env := [.val (limO lo hi), .val (rowD (nt s)), .val (rowD (nt t)), .no, .no]) (o := .v 0) (es := [.p (.e (.ix (.s 1) (.e (.int 0)))), .p (.e (.ix (.s 2) (.e (.int 0))))]) (ds := [.int s.1, .int t.1]) (v0 _ _ _ _) (by simp only [args, arg, ev, evs, getv, po, pt, peek, peekT, List.getElem?_cons_succ, List.getElem?_cons_zero, Res.bind_ok, Vl.d_val, Vl.d_own, rw_0]; rfl) (reach7 k L hs.1 ht.1)
  unfold f_apart
  refine st_asgt c7 rfl (st_ret ?_)
  simp only [List.foldl_cons, List.foldl_nil, List.zip_cons_cons, List.zip_nil_left, List.zip_nil_right, List.set_cons_succ, List.set_cons_zero, ev, evs, getv, po, pt, peek, peekT, List.getElem?_cons_succ, List.getElem?_cons_zero, Res.bind_ok, Vl.d_val, Vl.d_own, rw_1, rw_2, bin_sub, cmp_gt, cmp_lt, ofB, asBool]
  unfold joinB nt
  simp only
  by_cases h : (rch lo hi s.1 t.1).2 < t.2 - s.2
  · rw [decide_eq_true h, if_pos rfl, decide_eq_false (show ¬ t.2 - s.2 ≤ (rch lo hi s.1 t.1).2 by omega), Bool.and_false, Bool.not_false]
  · rw [decide_eq_false h, if_neg (by decide), decide_eq_true (show t.2 - s.2 ≤ (rch lo hi s.1 t.1).2 by omega), Bool.and_true]
    congr 2
    by_cases h2 : t.2 - s.2 < (rch lo hi s.1 t.1).1
    · rw [decide_eq_true h2, decide_eq_false (show ¬ (rch lo hi s.1 t.1).1 ≤ t.2 - s.2 by omega)]
      rfl
    · rw [decide_eq_false h2, decide_eq_true (show (rch lo hi s.1 t.1).1 ≤ t.2 - s.2 by omega)]
      rfl
theorem found_ok (k : Nat) {lo hi : List Int} (M : Lm lo hi) (L : List Sp) (hl : L.length ≤ 40) (h : ∀ s ∈ L, okS lo s) : runFn f_found_clash (S8 (k + 2)) [limO lo hi, .lst ((L.map nt).map rowD)] = .ok (.val (pairD' (fa lo hi L))) := by
  refine run_ret rfl rfl ?_
  show exss (S8 (k + 2)) f_found_clash.body [.val (limO lo hi), .pk ((L.map nt).map rowD), .no, .no] = _
  have r := dbl (c := S8 (k + 2)) (a := 2) (b := 3) (T := .v (.e (.call 15 [.e (.v 0), .p (.e (.ix (.s 1) (.s 2))), .p (.e (.ix (.s 1) (.s 3)))]))) (lim := .b1 .len (.s 1)) (n := L.length) (by omega) (qJ lo hi L) (fun x y => [.val (limO lo hi), .pk ((L.map nt).map rowD), x, y]) (fun d x y => rfl) (fun d x y => rfl) (fun i j h0 h1 h2 => by
    have i0 := nix (L := L) h0 (show i < L.length by omega)
    have i1 := nix (L := L) (show 0 ≤ j by omega) h2
    have g15 : (S8 (k + 2)).call 15 [limO lo hi, rowD (nt (gS L i)), rowD (nt (gS L j))] = .ok (.val (.bl (!joinB lo hi (gS L i) (gS L j)))) := by
      rw [s8, call_15]
      exact apart_ok k M (gS_ok h h0 (by omega)) (gS_ok h (by omega) h2)
    have c15 := ev_call (c := S8 (k + 2)) (env := [.val (limO lo hi), .pk ((L.map nt).map rowD), .val (.int i), .val (.int j)]) (es := [.e (.v 0), .p (.e (.ix (.s 1) (.s 2))), .p (.e (.ix (.s 1) (.s 3)))]) (by simp only [args, arg, ev, evs, getv, po, pt, peek, peekT, List.getElem?_cons_succ, List.getElem?_cons_zero, Res.bind_ok, Vl.d_val, Vl.d_own, i0, i1]) g15
    simp only [tv, po, ↓c15, Res.bind_ok, Vl.d_val, truth]
    rfl) (fun d y => rfl) (fun d x => rfl) (fun d y => rfl) (fun x y => by simp only [ev, evs, getv, po, pt, peek, peekT, List.getElem?_cons_succ, List.getElem?_cons_zero, Res.bind_ok, Vl.d_val, Vl.d_own, b1, len, List.length_map]) .no .no
  have it : itsF (S8 (k + 2)) (.r1 (.b1 .len (.s 1))) [.val (limO lo hi), .pk ((L.map nt).map rowD), .no, .no] = .ok ((daysFrom 0 L.length).map D.int) := itsF_r1 (n := L.length) (by simp only [ev, evs, getv, po, pt, peek, peekT, List.getElem?_cons_succ, List.getElem?_cons_zero, Res.bind_ok, Vl.d_val, Vl.d_own, b1, len, List.length_map]) (inR_s (by omega) (by omega))
  unfold f_found_clash
  rcases r with ⟨p, hp, l⟩ | ⟨hp, x, y, l⟩
  · have : fa lo hi L = some p := hp
    rw [this]
    exact st_forR it l
  · have : fa lo hi L = none := hp
    rw [this]
    exact st_for it l (st_ret rfl)
theorem found16 (k : Nat) {lo hi : List Int} (M : Lm lo hi) (L : List Sp) (hl : L.length ≤ 40) (h : ∀ s ∈ L, okS lo s) : (S8 (k + 3)).call 16 [limO lo hi, .lst ((L.map nt).map rowD)] = .ok (.val (pairD' (fa lo hi L))) := by
  rw [s8, call_16]
  exact found_ok k M L hl h
theorem chkn_ok (c : Ctx) {lo hi : List Int} (L : List Sp) (hl : L.length ≤ 40) (h : ∀ s ∈ L, okS lo s) : runFn f_check_notes c [limO lo hi, .lst ((L.map nt).map rowD)] = .ok (.val .non) := by
  obtain ⟨e2, l, x2, x3, x4, J⟩ := for_keep (tg := .t [2, 3, 4]) (body := exss c [.ite [] (.not (.ch2 .le .le (.e (.int 0)) (.s 2) (.e (.fld (.v 0) 0 0)))) [.rais 1 [.str "moment of a note"]] [], .ite [] (.or (.cmp .gt (.e (.b1 .abs (.s 3))) (.e (.g 1 (.int (1000000000))))) (.cmp .gt (.e (.b1 .abs (.s 4))) (.e (.g 1 (.int (1000000000)))))) [.rais 1 [.str "total of a note"]] [], .ite [] (.cmp .gt (.s 3) (.s 4)) [.rais 4 [.v 3, .v 4]] []]) rowD (fun env => ∃ x2 x3 x4, env = [.val (limO lo hi), .pk ((L.map nt).map rowD), x2, x3, x4]) (L.map nt) [.val (limO lo hi), .pk ((L.map nt).map rowD), .no, .no, .no] (fun r hr env ⟨x2, x3, x4, he⟩ => by
    rw [he]
    obtain ⟨s, hs, rfl⟩ := List.mem_map.mp hr
    have o := h s hs
    unfold okS at o
    refine ⟨[.val (limO lo hi), .pk ((L.map nt).map rowD), .val (.int s.1), .val (.int s.2), .val (.int s.2)], rfl, [.val (limO lo hi), .pk ((L.map nt).map rowD), .val (.int s.1), .val (.int s.2), .val (.int s.2)], .inl ?_, _, _, _, rfl⟩
    refine st_no ?_ (st_no ?_ (st_no ?_ rfl))
    · rw [tv, tv]
      simp only [po, peek, List.getElem?_cons_zero, List.getElem?_cons_succ, ↓fldd, ev, Res.bind_ok, Vl.d_val, cmp_le, decide_eq_true o.1.1, if_true, decide_eq_true o.1.2, Bool.not_true]
    · simp only [tv, ev, evs, getv, po, pt, peek, peekT, List.getElem?_cons_succ, List.getElem?_cons_zero, Res.bind_ok, Vl.d_val, Vl.d_own, abs_ok, cmp_gt]
      rw [decide_eq_false (by omega)]
      rfl
    · simp only [tv, ev, evs, getv, po, pt, peek, peekT, List.getElem?_cons_succ, List.getElem?_cons_zero, Res.bind_ok, Vl.d_val, Vl.d_own, cmp_gt]
      rw [decide_eq_false (by omega)]) ⟨_, _, _, rfl⟩
  refine run_nx (e := e2) rfl rfl ?_
  show exss c f_check_notes.body [.val (limO lo hi), .pk ((L.map nt).map rowD), .no, .no, .no] = _
  unfold f_check_notes
  refine st_no ?_ (st_for (by simp only [itsF, List.getElem?_cons_succ, List.getElem?_cons_zero]) l rfl)
  simp only [tv, ev, evs, getv, po, pt, peek, peekT, List.getElem?_cons_succ, List.getElem?_cons_zero, Res.bind_ok, Vl.d_val, Vl.d_own, b1, len, List.length_map, cmp_gt]
  rw [decide_eq_false (by omega)]
theorem chkn14 (k : Nat) {lo hi : List Int} (L : List Sp) (hl : L.length ≤ 40) (h : ∀ s ∈ L, okS lo s) : (S8 (k + 1)).call 14 [limO lo hi, .lst ((L.map nt).map rowD)] = .ok (.val .non) := by
  rw [s8, call_14]
  exact chkn_ok _ L hl h
theorem first_ok (k : Nat) {lo hi : List Int} (M : Lm lo hi) (L : List Sp) (hl : L.length ≤ 40) (h : ∀ s ∈ L, okS lo s) : runFn f_first_clash (S8 (k + 3)) [limO lo hi, .lst ((L.map nt).map rowD)] = .ok (.val (pairD' (fa lo hi L))) := by
  refine run_ret rfl rfl ?_
  show exss (S8 (k + 3)) f_first_clash.body [.val (limO lo hi), .pk ((L.map nt).map rowD)] = _
  unfold f_first_clash
  exact st_ex (ev_call (by simp only [args, arg, ev, evs, getv, po, pt, peek, peekT, List.getElem?_cons_succ, List.getElem?_cons_zero, Res.bind_ok, Vl.d_val, Vl.d_own]) (chkn14 (hi := hi) (k + 2) L hl h)) (st_ret (ev_call (by simp only [args, arg, ev, evs, getv, po, pt, peek, peekT, List.getElem?_cons_succ, List.getElem?_cons_zero, Res.bind_ok, Vl.d_val, Vl.d_own]) (found16 k M L hl h)))
theorem refc_ok (k : Nat) {lo hi : List Int} (M : Lm lo hi) (L : List Sp) (hl : L.length ≤ 40) (h : ∀ s ∈ L, okS lo s) :
    (fa lo hi L = none → runFn f_refuse_clash (S8 (k + 3)) [limO lo hi, .lst ((L.map nt).map rowD)] = .ok (.val .non)) ∧
    (∀ p, fa lo hi L = some p → runFn f_refuse_clash (S8 (k + 3)) [limO lo hi, .lst ((L.map nt).map rowD)] = .err 6 [.int p.1, .int p.2]) := by
  have g := found16 k M L hl h
  have c16 := ev_call (c := S8 (k + 3)) (env := [.val (limO lo hi), .pk ((L.map nt).map rowD), .no]) (es := [.e (.v 0), .p (.s 1)]) (by simp only [args, arg, ev, evs, getv, po, pt, peek, peekT, List.getElem?_cons_succ, List.getElem?_cons_zero, Res.bind_ok, Vl.d_val, Vl.d_own]) g
  refine ⟨fun e => ?_, fun p e => ?_⟩
  · rw [e] at c16
    refine run_nx (e := [.val (limO lo hi), .pk ((L.map nt).map rowD), .val .non]) rfl rfl ?_
    show exss (S8 (k + 3)) f_refuse_clash.body [.val (limO lo hi), .pk ((L.map nt).map rowD), .no] = _
    unfold f_refuse_clash
    refine st_asg c16 ?_
    exact st_no rfl rfl
  · rw [e] at c16
    refine run_err (e := [.val (limO lo hi), .pk ((L.map nt).map rowD), .val (prD p)]) rfl rfl ?_
    show exss (S8 (k + 3)) f_refuse_clash.body [.val (limO lo hi), .pk ((L.map nt).map rowD), .no] = _
    unfold f_refuse_clash
    refine st_asg c16 ?_
    exact st_yesE rfl (st_rais (by
      show evs (S8 (k + 3)) [.ix (.s 2) (.e (.int 0)), .ix (.s 2) (.e (.int 1))] [.val (limO lo hi), .pk ((L.map nt).map rowD), .val (prD p)] = _
      simp only [ev, evs, getv, po, pt, peek, peekT, List.getElem?_cons_succ, List.getElem?_cons_zero, Res.bind_ok, Vl.d_val, Vl.d_own, pr_0, pr_1]))
def mx : List Int → Int
  | [] => 0
  | n :: ns => ns.foldl max n
theorem b1_max' {X : List Int} (h : X ≠ []) : b1 .max (.lst (X.map D.int)) = .ok (.val (.int (mx X))) := by
  cases X with
  | nil => exact absurd rfl h
  | cons n ns => simp only [b1, intsOf_map, mx]
def lowL (lo hi : List Int) (L : List Sp) (m : Int) : List Int := L.map fun s => s.2 + (rch lo hi s.1 m).1
def lowH (lo hi : List Int) (L : List Sp) : List Int := (daysFrom 0 (lo.length + 1)).map fun m => mx (lowL lo hi L m)
theorem lowat_ok (k : Nat) {lo hi : List Int} (M : Lm lo hi) (L : List Sp) (hl : L.length ≤ 40) (h : ∀ s ∈ L, okS lo s) (hne : L ≠ []) (m : Int) (hm : 0 ≤ m ∧ m ≤ lo.length) : runFn f_lowest_at (S8 (k + 1)) [limO lo hi, .lst ((L.map nt).map rowD), .int m] = .ok (.val (.int (mx (lowL lo hi L m)))) := by
  have hS := SLe
  refine run_ret rfl rfl ?_
  show exss (S8 (k + 1)) f_lowest_at.body [.val (limO lo hi), .pk ((L.map nt).map rowD), .val (.int m), .no, .no, .no] = _
  have cp : ev (S8 (k + 1)) (.comp (.t [3, 4, 5]) (.sq (.s 1)) [] (.bin .add (.s 4) (.e (.ix (.e (.mth 0 7 (.v 0) [.p (.s 3), .p (.s 2)])) (.e (.int 0))))) [3, 4, 5]) [.val (limO lo hi), .pk ((L.map nt).map rowD), .val (.int m), .no, .no, .no] = .ok (.own ((lowL lo hi L m).map D.int)) := by
    rw [ev_comp (ds := L.map fun s => rowD (nt s)) (by rw [List.map_map]; simp only [its, ev, evs, getv, po, pt, peek, peekT, List.getElem?_cons_succ, List.getElem?_cons_zero, Res.bind_ok, Vl.d_val, Vl.d_own, walkOf]; rfl)]
    rw [comp_mp (fun s => rowD (nt s)) (fun s => .int (s.2 + (rch lo hi s.1 m).1)) _ [] (fun s hs => ?_) (by simp only [List.length_nil]; omega)]
    · unfold lowL
      rw [List.map_map]
      rfl
    · have e : setT (.t [3, 4, 5]) (rowD (nt s)) (wipeE [.val (limO lo hi), .pk ((L.map nt).map rowD), .val (.int m), .no, .no, .no] [3, 4, 5]) = some [.val (limO lo hi), .pk ((L.map nt).map rowD), .val (.int m), .val (.int s.1), .val (.int s.2), .val (.int s.2)] := rfl
      have c7 := ev_mth (c := S8 (k + 1)) (env := [.val (limO lo hi), .pk ((L.map nt).map rowD), .val (.int m), .val (.int s.1), .val (.int s.2), .val (.int s.2)]) (o := .v 0) (es := [.p (.s 3), .p (.s 2)]) (ds := [.int s.1, .int m]) (v0 _ _ _ _) (by simp only [args, arg, ev, evs, getv, po, pt, peek, peekT, List.getElem?_cons_succ, List.getElem?_cons_zero, Res.bind_ok, Vl.d_val, Vl.d_own]) (reach7 k M (h s hs).1 hm)
      simp only [turnD, e, tvs, Res.bind_ok, if_true, ev, pt, peekT, po, List.getElem?_cons_zero, List.getElem?_cons_succ, ↓c7, Vl.d_val, pr_0, bin_add]
  have hx : lowL lo hi L m ≠ [] := by
    unfold lowL
    intro z
    exact hne (List.map_eq_nil_iff.mp z)
  unfold f_lowest_at
  refine st_ret ?_
  rw [ev]
  simp only [po, ↓cp, Res.bind_ok, Vl.d_own, b1_max' hx]
theorem lowof_ok (k : Nat) {lo hi : List Int} (M : Lm lo hi) (L : List Sp) (hl : L.length ≤ 40) (h : ∀ s ∈ L, okS lo s) (hne : L ≠ []) : runFn f_lowest_of (S8 (k + 2)) [limO lo hi, .lst ((L.map nt).map rowD)] = .ok (.own ((lowH lo hi L).map .int)) := by
  have hS := SLe
  have := M.top
  refine run_ret rfl rfl ?_
  show exss (S8 (k + 2)) f_lowest_of.body [.val (limO lo hi), .pk ((L.map nt).map rowD), .no] = _
  unfold f_lowest_of
  refine st_ret ?_
  have lim : ev (S8 (k + 2)) (.bin .add (.e (.fld (.v 0) 0 0)) (.e (.int 1))) [.val (limO lo hi), .pk ((L.map nt).map rowD), .no] = .ok (.val (.int (lo.length + 1))) := by
    rw [ev]
    simp only [pt, ↓fldd, Res.bind_ok, Vl.d_val, ev, bin_add]
  rw [ev_comp (its_r1 lim (inR_s (by omega) (by omega))), show ((lo.length : Int) + 1).toNat = lo.length + 1 by omega, comp_mp D.int (fun m => .int (mx (lowL lo hi L m))) _ [] (fun m hm => ?_) (by rw [daysFrom_len, List.length_nil]; omega)]
  · unfold lowH
    rw [List.map_map]
    rfl
  · have hd := daysFrom_mem hm
    have g12 : (S8 (k + 2)).call 12 [limO lo hi, .lst ((L.map nt).map rowD), .int m] = .ok (.val (.int (mx (lowL lo hi L m)))) := by
      rw [s8, call_12]
      exact lowat_ok k M L hl h hne m ⟨hd.1, by omega⟩
    have e : setT (.n 2) (.int m) (wipeE [.val (limO lo hi), .pk ((L.map nt).map rowD), .no] [2]) = some [.val (limO lo hi), .pk ((L.map nt).map rowD), .val (.int m)] := rfl
    have c12 := ev_call (c := S8 (k + 2)) (env := [.val (limO lo hi), .pk ((L.map nt).map rowD), .val (.int m)]) (es := [.e (.v 0), .p (.s 1), .p (.s 2)]) (by simp only [args, arg, ev, evs, getv, po, pt, peek, peekT, List.getElem?_cons_succ, List.getElem?_cons_zero, Res.bind_ok, Vl.d_val, Vl.d_own]) g12
    simp only [turnD, e, tvs, Res.bind_ok, if_true, ↓c12, Vl.d_val]
theorem isE {L : List Sp} (h : L ≠ []) : ((L.map nt).map rowD).isEmpty = false := by
  cases L with
  | nil => exact absurd rfl h
  | cons a b => rfl
theorem lowest_ok (k : Nat) {lo hi : List Int} (M : Lm lo hi) (L : List Sp) (hl : L.length ≤ 40) (h : ∀ s ∈ L, okS lo s) (hne : L ≠ []) (hf : fa lo hi L = none) : runFn f_lowest (S8 (k + 5)) [limO lo hi, .lst ((L.map nt).map rowD)] = .ok (.own ((lowH lo hi L).map .int)) := by
  have g18 : (S8 (k + 4)).call 18 [limO lo hi, .lst ((L.map nt).map rowD)] = .ok (.val .non) := by rw [s8, call_18]; exact (refc_ok k M L hl h).1 hf
  have g13 : (S8 (k + 5)).call 13 [limO lo hi, .lst ((L.map nt).map rowD)] = .ok (.own ((lowH lo hi L).map .int)) := by rw [s8, call_13]; exact lowof_ok (k + 2) M L hl h hne
  have g25 : (S8 (k + 5)).call 25 [limO lo hi, .lst ((L.map nt).map rowD)] = .ok (.val .non) := by
    rw [s8, call_25]
    refine run_nx (e := [.val (limO lo hi), .pk ((L.map nt).map rowD)]) rfl rfl ?_
    show exss (S8 (k + 4)) f_refuse.body [.val (limO lo hi), .pk ((L.map nt).map rowD)] = _
    unfold f_refuse
    refine st_ex (ev_call (by simp only [args, arg, ev, evs, getv, po, pt, peek, peekT, List.getElem?_cons_succ, List.getElem?_cons_zero, Res.bind_ok, Vl.d_val, Vl.d_own]) (chkn14 (hi := hi) (k + 3) L hl h)) (st_no ?_ (st_ex (ev_call (by simp only [args, arg, ev, evs, getv, po, pt, peek, peekT, List.getElem?_cons_succ, List.getElem?_cons_zero, Res.bind_ok, Vl.d_val, Vl.d_own]) g18) rfl))
    simp only [tv, ev, evs, getv, po, pt, peek, peekT, List.getElem?_cons_succ, List.getElem?_cons_zero, Res.bind_ok, Vl.d_val, Vl.d_own, truth, isE hne, Bool.not_false, Bool.not_true]
  refine run_ret rfl rfl ?_
  show exss (S8 (k + 5)) f_lowest.body [.val (limO lo hi), .pk ((L.map nt).map rowD)] = _
  unfold f_lowest
  exact st_ex (ev_call (by simp only [args, arg, ev, evs, getv, po, pt, peek, peekT, List.getElem?_cons_succ, List.getElem?_cons_zero, Res.bind_ok, Vl.d_val, Vl.d_own]) g25) (st_ret (ev_call (by simp only [args, arg, ev, evs, getv, po, pt, peek, peekT, List.getElem?_cons_succ, List.getElem?_cons_zero, Res.bind_ok, Vl.d_val, Vl.d_own]) g13))
theorem isE1 {L : List Sp} (h : L ≠ []) : (L.map prD).isEmpty = false := by
  cases L with
  | nil => exact absurd rfl h
  | cons a b => rfl
theorem hist_ok (k : Nat) {lo hi : List Int} (M : Lm lo hi) (L : List Sp) (hl : L.length ≤ 40) (h : ∀ s ∈ L, okS lo s) :
    (L = [] → ∃ fs, runFn f_history_through (S8 (k + 4)) [limO lo hi, .lst (L.map prD)] = .err 5 fs) ∧
    (∀ p, L ≠ [] → fa lo hi L = some p → runFn f_history_through (S8 (k + 4)) [limO lo hi, .lst (L.map prD)] = .err 6 [.int p.1, .int p.2]) ∧
    (L ≠ [] → fa lo hi L = none → runFn f_history_through (S8 (k + 4)) [limO lo hi, .lst (L.map prD)] = .ok (.own ((lowH lo hi L).map .int))) := by
  have hS := SLe
  have c19 := ev_call (c := S8 (k + 4)) (env := [.val (limO lo hi), .pk (L.map prD), .no, .no, .no]) (es := [.e (.v 0), .p (.s 1)]) (by simp only [args, arg, ev, evs, getv, po, pt, peek, peekT, List.getElem?_cons_succ, List.getElem?_cons_zero, Res.bind_ok, Vl.d_val, Vl.d_own]) (chks19 (hi := hi) (k + 3) L hl h)
  have cp : ev (S8 (k + 4)) (.comp (.t [3, 4]) (.sq (.s 1)) [] (.tup [.v 3, .v 4, .v 4]) [3, 4]) [.val (limO lo hi), .pk (L.map prD), .no, .no, .no] = .ok (.own ((L.map nt).map rowD)) := by
    rw [ev_comp (ds := L.map prD) (by simp only [its, ev, evs, getv, po, pt, peek, peekT, List.getElem?_cons_succ, List.getElem?_cons_zero, Res.bind_ok, Vl.d_val, Vl.d_own, walkOf])]
    rw [comp_mp prD (fun s => rowD (nt s)) _ [] (fun s hs => ?_) (by simp only [List.length_nil]; omega)]
    · rw [List.map_map]
      rfl
    · have e : setT (.t [3, 4]) (prD s) (wipeE [.val (limO lo hi), .pk (L.map prD), .no, .no, .no] [3, 4]) = some [.val (limO lo hi), .pk (L.map prD), .no, .val (.int s.1), .val (.int s.2)] := rfl
      have t3 := tup3 (c := S8 (k + 4)) (a := .v 3) (b := .v 4) (d := .v 4) (env := [.val (limO lo hi), .pk (L.map prD), .no, .val (.int s.1), .val (.int s.2)]) (x := s.1) (y := s.2) (z := s.2) (by simp only [ev, evs, getv, po, pt, peek, peekT, List.getElem?_cons_succ, List.getElem?_cons_zero, Res.bind_ok, Vl.d_val, Vl.d_own]) (by simp only [ev, evs, getv, po, pt, peek, peekT, List.getElem?_cons_succ, List.getElem?_cons_zero, Res.bind_ok, Vl.d_val, Vl.d_own]) (by simp only [ev, evs, getv, po, pt, peek, peekT, List.getElem?_cons_succ, List.getElem?_cons_zero, Res.bind_ok, Vl.d_val, Vl.d_own])
      simp only [turnD, e, tvs, Res.bind_ok, if_true, ↓t3, Vl.d_val]
      rfl
  have t : tv (S8 (k + 4)) (.not (.v (.s 1))) [.val (limO lo hi), .pk (L.map prD), .no, .no, .no] = .ok (L.map prD).isEmpty := by
    simp only [tv, ev, evs, getv, po, pt, peek, peekT, List.getElem?_cons_succ, List.getElem?_cons_zero, Res.bind_ok, Vl.d_val, Vl.d_own, truth, Bool.not_not]
  refine ⟨fun e => ?_, fun p hne e => ?_, fun hne e => ?_⟩
  · refine ⟨[.str "no slip"], run_err (e := [.val (limO lo hi), .pk (L.map prD), .no, .no, .no]) rfl rfl ?_⟩
    show exss (S8 (k + 4)) f_history_through.body [.val (limO lo hi), .pk (L.map prD), .no, .no, .no] = _
    unfold f_history_through
    refine st_ex c19 (st_yesE (t.trans (by rw [e]; rfl)) (st_rais rfl))
  · have g18 : (S8 (k + 4)).call 18 [limO lo hi, .lst ((L.map nt).map rowD)] = .err 6 [.int p.1, .int p.2] := by rw [s8, call_18]; exact (refc_ok k M L hl h).2 p e
    refine run_err (e := [.val (limO lo hi), .pk (L.map prD), .own ((L.map nt).map rowD), .no, .no]) rfl rfl ?_
    show exss (S8 (k + 4)) f_history_through.body [.val (limO lo hi), .pk (L.map prD), .no, .no, .no] = _
    unfold f_history_through
    refine st_ex c19 (st_no (t.trans (by rw [isE1 hne])) (st_asg cp ?_))
    simp only [List.set_cons_succ, List.set_cons_zero, Vl.sl_val, Vl.sl_own]
    exact st_exE (ev_call (by simp only [args, arg, ev, evs, getv, po, pt, peek, peekT, List.getElem?_cons_succ, List.getElem?_cons_zero, Res.bind_ok, Vl.d_val, Vl.d_own]) g18)
  · have g18 : (S8 (k + 4)).call 18 [limO lo hi, .lst ((L.map nt).map rowD)] = .ok (.val .non) := by rw [s8, call_18]; exact (refc_ok k M L hl h).1 e
    have g13 : (S8 (k + 4)).call 13 [limO lo hi, .lst ((L.map nt).map rowD)] = .ok (.own ((lowH lo hi L).map .int)) := by rw [s8, call_13]; exact lowof_ok (k + 1) M L hl h hne
    refine run_ret rfl rfl ?_
    show exss (S8 (k + 4)) f_history_through.body [.val (limO lo hi), .pk (L.map prD), .no, .no, .no] = _
    unfold f_history_through
    refine st_ex c19 (st_no (t.trans (by rw [isE1 hne])) (st_asg cp ?_))
    simp only [List.set_cons_succ, List.set_cons_zero, Vl.sl_val, Vl.sl_own]
    exact st_ex (ev_call (by simp only [args, arg, ev, evs, getv, po, pt, peek, peekT, List.getElem?_cons_succ, List.getElem?_cons_zero, Res.bind_ok, Vl.d_val, Vl.d_own]) g18) (st_ret (ev_call (by simp only [args, arg, ev, evs, getv, po, pt, peek, peekT, List.getElem?_cons_succ, List.getElem?_cons_zero, Res.bind_ok, Vl.d_val, Vl.d_own]) g13))
/-! ### the law draws -/
theorem call_27 (k : Nat) : sem (tblOf T) 0 (k + 1) 27 = runFn f_law_cell (S8 k) := sem_f k 27 _ rfl
theorem call_28 (k : Nat) : sem (tblOf T) 0 (k + 1) 28 = runFn f_law_row (S8 k) := sem_f k 28 _ rfl
theorem call_29 (k : Nat) : sem (tblOf T) 0 (k + 1) 29 = runFn f_law_at (S8 k) := sem_f k 29 _ rfl
theorem call_30 (k : Nat) : sem (tblOf T) 0 (k + 1) 30 = runFn f_law_is_whole (S8 k) := sem_f k 30 _ rfl
theorem call_31 (k : Nat) : sem (tblOf T) 0 (k + 1) 31 = runFn f_law_rows (S8 k) := sem_f k 31 _ rfl
theorem call_32 (k : Nat) : sem (tblOf T) 0 (k + 1) 32 = runFn f_law_sums (S8 k) := sem_f k 32 _ rfl
theorem call_33 (k : Nat) : sem (tblOf T) 0 (k + 1) 33 = runFn f_law_joined (S8 k) := sem_f k 33 _ rfl
theorem call_34 (k : Nat) : sem (tblOf T) 0 (k + 1) 34 = runFn f_law_hidden (S8 k) := sem_f k 34 _ rfl
theorem call_35 (k : Nat) : sem (tblOf T) 0 (k + 1) 35 = runFn f_law_moved (S8 k) := sem_f k 35 _ rfl
theorem call_36 (k : Nat) : sem (tblOf T) 0 (k + 1) 36 = runFn f_law_slips (S8 k) := sem_f k 36 _ rfl
theorem call_37 (k : Nat) : sem (tblOf T) 0 (k + 1) 37 = runFn f_law_pairs (S8 k) := sem_f k 37 _ rfl
theorem call_38 (k : Nat) : sem (tblOf T) 0 (k + 1) 38 = runFn f_law_order (S8 k) := sem_f k 38 _ rfl
theorem call_39 (k : Nat) : sem (tblOf T) 0 (k + 1) 39 = runFn f_law_apart (S8 k) := sem_f k 39 _ rfl
theorem call_40 (k : Nat) : sem (tblOf T) 0 (k + 1) 40 = runFn f_law_through (S8 k) := sem_f k 40 _ rfl
theorem call_41 (k : Nat) : sem (tblOf T) 0 (k + 1) 41 = runFn f_law_history (S8 k) := sem_f k 41 _ rfl
theorem call_42 (k : Nat) : sem (tblOf T) 0 (k + 1) 42 = runFn f_law_other (S8 k) := sem_f k 42 _ rfl
theorem whole30 (k : Nat) (z : Int) : (S8 (k + 1)).call 30 [.int z] = .ok (.val (.bl true)) := by
  rw [s8, call_30]
  exact whole_ok (S8 k) z
def atR (R : List Int) (i m : Int) : Int := (R.getD i.toNat 0).fmod m
theorem atR_b {R : List Int} {i m : Int} (h : 0 < m) : 0 ≤ atR R i m ∧ atR R i m < m := fmod_lt h
theorem at29 (k : Nat) (R : List Int) (i m : Int) (h0 : 0 ≤ i) (h1 : i < R.length) (hm : 0 < m) : (S8 (k + 1)).call 29 [.lst (R.map .int), .int i, .int m] = .ok (.val (.int (atR R i m))) := by
  rw [s8, call_29]
  refine run_ret rfl rfl ?_
  show exss (S8 k) f_law_at.body [.pk (R.map .int), .val (.int i), .val (.int m)] = _
  have ix := index_ints (R := R) h0 h1
  have bm := bin_mod (R.getD i.toNat 0) m (by omega)
  unfold f_law_at
  exact st_ret (by simp only [ev, evs, getv, po, pt, peek, peekT, List.getElem?_cons_succ, List.getElem?_cons_zero, Res.bind_ok, Vl.d_val, Vl.d_own, ix, b1_int, bm]; rfl)
def lrB1 : List PL.S := [.asg [] 7 (.call 29 [.p (.s 0), .p (.e (.bin .add (.s 1) (.e (.bin .mul (.e (.int 4)) (.s 6))))), .e (.bin .add (.s 3) (.e (.int 1)))]), .ite [] (.cmp .eq (.e (.call 29 [.p (.s 0), .p (.e (.bin .add (.e (.bin .add (.s 1) (.e (.bin .mul (.e (.int 4)) (.s 6))))) (.e (.int 1)))), .e (.int 2)])) (.e (.int 1))) [.asg [] 7 (.int 0)] [], .app [5] 4 (.tup [.v 5, .v 7, .bin .add (.s 7) (.e (.call 29 [.p (.s 0), .p (.e (.bin .add (.e (.bin .add (.s 1) (.e (.bin .mul (.e (.int 4)) (.s 6))))) (.e (.int 2)))), .e (.bin .add (.e (.bin .sub (.s 3) (.s 7))) (.e (.int 1)))]))])]
def lrBody : List PL.S := [.ite [] (.cmp .lt (.s 5) (.s 2)) lrB1 [], .asg [] 5 (.bin .add (.e (.bin .add (.s 5) (.e (.int 1)))) (.e (.call 29 [.p (.s 0), .p (.e (.bin .add (.e (.bin .add (.s 1) (.e (.bin .mul (.e (.int 4)) (.s 6))))) (.e (.int 3)))), .e (.v 2)])))]
theorem lr_B1 (kk : Nat) (R : List Int) (at_ k days top day : Int) (hat : 0 ≤ at_) (hk : 0 ≤ k) (hk3 : k ≤ 3) (hlen : at_ + 16 ≤ R.length) (ht : 0 ≤ top) (ht2 : top ≤ 1000000) (rs : List Rw) (hl : rs.length < 100) (s7 : Sl) :
    ∃ lo hi s7', okUse (day, lo, hi) ∧ exss (S8 (kk + 1)) lrB1 [.pk (R.map .int), .val (.int at_), .val (.int days), .val (.int top), .own (rs.map rowD), .val (.int day), .val (.int k), s7] =
      .nx [.pk (R.map .int), .val (.int at_), .val (.int days), .val (.int top), .own ((rs ++ [(day, lo, hi)]).map rowD), .val (.int day), .val (.int k), s7'] := by
  have hS := SLe
  have m4 := bin_mul 4 k (mul_l (by omega) (by omega))
  have g0 := at29 kk R (at_ + 4 * k) (top + 1) (by omega) (by omega) (by omega)
  have g1 := at29 kk R (at_ + 4 * k + 1) 2 (by omega) (by omega) (by omega)
  have f0 := atR_b (R := R) (i := at_ + 4 * k) (show 0 < top + 1 by omega)
  have fin : ∀ lo, 0 ≤ lo → lo ≤ top → ∃ hi, okUse (day, lo, hi) ∧ exss (S8 (kk + 1)) [.app [5] 4 (.tup [.v 5, .v 7, .bin .add (.s 7) (.e (.call 29 [.p (.s 0), .p (.e (.bin .add (.e (.bin .add (.s 1) (.e (.bin .mul (.e (.int 4)) (.s 6))))) (.e (.int 2)))), .e (.bin .add (.e (.bin .sub (.s 3) (.s 7))) (.e (.int 1)))]))])] [.pk (R.map .int), .val (.int at_), .val (.int days), .val (.int top), .own (rs.map rowD), .val (.int day), .val (.int k), .val (.int lo)] =
      .nx [.pk (R.map .int), .val (.int at_), .val (.int days), .val (.int top), .own ((rs ++ [(day, lo, hi)]).map rowD), .val (.int day), .val (.int k), .val (.int lo)] := fun lo h0 h1 => by
    have g2 := at29 kk R (at_ + 4 * k + 2) (top - lo + 1) (by omega) (by omega) (by omega)
    have f2 := atR_b (R := R) (i := at_ + 4 * k + 2) (show 0 < top - lo + 1 by omega)
    refine ⟨lo + atR R (at_ + 4 * k + 2) (top - lo + 1), ⟨h0, by simp only; omega, by simp only; omega⟩, ?_⟩
    have c2 := ev_call (c := S8 (kk + 1)) (env := [.pk (R.map .int), .val (.int at_), .val (.int days), .val (.int top), .own (rs.map rowD), .val (.int day), .val (.int k), .val (.int lo)]) (es := [.p (.s 0), .p (.e (.bin .add (.e (.bin .add (.s 1) (.e (.bin .mul (.e (.int 4)) (.s 6))))) (.e (.int 2)))), .e (.bin .add (.e (.bin .sub (.s 3) (.s 7))) (.e (.int 1)))]) (by simp only [args, arg, ev, evs, getv, po, pt, peek, peekT, List.getElem?_cons_succ, List.getElem?_cons_zero, Res.bind_ok, Vl.d_val, Vl.d_own, m4, bin_add, bin_sub]) g2
    refine st_appf (ds := rs.map rowD) (v := .val (rowD (day, lo, lo + atR R (at_ + 4 * k + 2) (top - lo + 1)))) (frz_val (d := .int day) rfl) rfl (by rw [List.length_map]; omega) ?_ ?_
    · refine tup3 (by simp only [ev, evs, getv, po, pt, peek, peekT, List.getElem?_cons_succ, List.getElem?_cons_zero, Res.bind_ok, Vl.d_val, Vl.d_own]) (by simp only [ev, evs, getv, po, pt, peek, peekT, List.getElem?_cons_succ, List.getElem?_cons_zero, Res.bind_ok, Vl.d_val, Vl.d_own]) ?_
      rw [ev]
      simp only [pt, peekT, List.getElem?_cons_succ, List.getElem?_cons_zero, ↓c2, Res.bind_ok, Vl.d_val, bin_add]
    · rw [List.map_append]
      rfl
  have c1 := fun s7 => ev_call (c := S8 (kk + 1)) (env := [.pk (R.map .int), .val (.int at_), .val (.int days), .val (.int top), .own (rs.map rowD), .val (.int day), .val (.int k), s7]) (es := [.p (.s 0), .p (.e (.bin .add (.e (.bin .add (.s 1) (.e (.bin .mul (.e (.int 4)) (.s 6))))) (.e (.int 1)))), .e (.int 2)]) (by simp only [args, arg, ev, evs, getv, po, pt, peek, peekT, List.getElem?_cons_succ, List.getElem?_cons_zero, Res.bind_ok, Vl.d_val, Vl.d_own, m4, bin_add]) g1
  have t : ∀ s7, tv (S8 (kk + 1)) (.cmp .eq (.e (.call 29 [.p (.s 0), .p (.e (.bin .add (.e (.bin .add (.s 1) (.e (.bin .mul (.e (.int 4)) (.s 6))))) (.e (.int 1)))), .e (.int 2)])) (.e (.int 1))) [.pk (R.map .int), .val (.int at_), .val (.int days), .val (.int top), .own (rs.map rowD), .val (.int day), .val (.int k), s7] = .ok (atR R (at_ + 4 * k + 1) 2 == 1) := fun s7 => by
    simp only [tv, po, ↓c1, Res.bind_ok, Vl.d_val, ev, cmp_eq]
  unfold lrB1
  cases hb : atR R (at_ + 4 * k + 1) 2 == 1 with
  | false =>
    obtain ⟨hi, q1, q2⟩ := fin (atR R (at_ + 4 * k) (top + 1)) f0.1 (by omega)
    refine ⟨_, hi, .val (.int (atR R (at_ + 4 * k) (top + 1))), q1, st_asg (ev_call (by simp only [args, arg, ev, evs, getv, po, pt, peek, peekT, List.getElem?_cons_succ, List.getElem?_cons_zero, Res.bind_ok, Vl.d_val, Vl.d_own, m4, bin_add]) g0) ?_⟩
    simp only [List.set_cons_succ, List.set_cons_zero, Vl.sl_val, Vl.sl_own]
    exact st_no ((t _).trans (by rw [hb])) q2
  | true =>
    obtain ⟨hi, q1, q2⟩ := fin 0 (by omega) ht
    refine ⟨_, hi, .val (.int 0), q1, st_asg (ev_call (by simp only [args, arg, ev, evs, getv, po, pt, peek, peekT, List.getElem?_cons_succ, List.getElem?_cons_zero, Res.bind_ok, Vl.d_val, Vl.d_own, m4, bin_add]) g0) ?_⟩
    simp only [List.set_cons_succ, List.set_cons_zero, Vl.sl_val, Vl.sl_own]
    exact st_yes ((t _).trans (by rw [hb])) (st_asg (v := .val (.int 0)) rfl rfl) q2
theorem lr_step (kk : Nat) (R : List Int) (at_ k days top day : Int) (hat : 0 ≤ at_) (hk : 0 ≤ k) (hk3 : k ≤ 3) (hlen : at_ + 16 ≤ R.length) (hd : 1 ≤ days) (ht : 0 ≤ top) (ht2 : top ≤ 1000000) (rs : List Rw) (hl : rs.length < 100) (s7 : Sl) :
    ∃ rs' day' s7', exss (S8 (kk + 1)) lrBody [.pk (R.map .int), .val (.int at_), .val (.int days), .val (.int top), .own (rs.map rowD), .val (.int day), .val (.int k), s7] =
      .nx [.pk (R.map .int), .val (.int at_), .val (.int days), .val (.int top), .own (rs'.map rowD), .val (.int day'), .val (.int k), s7'] ∧ day < day' ∧
      ((day < days ∧ ∃ lo hi, rs' = rs ++ [(day, lo, hi)] ∧ okUse (day, lo, hi)) ∨ (days ≤ day ∧ rs' = rs)) := by
  have m4 := bin_mul 4 k (mul_l (by omega) (by omega))
  have g3 := at29 kk R (at_ + 4 * k + 3) days (by omega) (by omega) (by omega)
  have fd := atR_b (R := R) (i := at_ + 4 * k + 3) (show 0 < days by omega)
  have fin : ∀ (rs : List Rw) (s7 : Sl), exss (S8 (kk + 1)) [.asg [] 5 (.bin .add (.e (.bin .add (.s 5) (.e (.int 1)))) (.e (.call 29 [.p (.s 0), .p (.e (.bin .add (.e (.bin .add (.s 1) (.e (.bin .mul (.e (.int 4)) (.s 6))))) (.e (.int 3)))), .e (.v 2)])))] [.pk (R.map .int), .val (.int at_), .val (.int days), .val (.int top), .own (rs.map rowD), .val (.int day), .val (.int k), s7] =
      .nx [.pk (R.map .int), .val (.int at_), .val (.int days), .val (.int top), .own (rs.map rowD), .val (.int (day + 1 + atR R (at_ + 4 * k + 3) days)), .val (.int k), s7] := fun rs s7 => by
    have c3 := ev_call (c := S8 (kk + 1)) (env := [.pk (R.map .int), .val (.int at_), .val (.int days), .val (.int top), .own (rs.map rowD), .val (.int day), .val (.int k), s7]) (es := [.p (.s 0), .p (.e (.bin .add (.e (.bin .add (.s 1) (.e (.bin .mul (.e (.int 4)) (.s 6))))) (.e (.int 3)))), .e (.v 2)]) (by simp only [args, arg, ev, evs, getv, po, pt, peek, peekT, List.getElem?_cons_succ, List.getElem?_cons_zero, Res.bind_ok, Vl.d_val, Vl.d_own, m4, bin_add]) g3
    refine st_asg (v := .val (.int (day + 1 + atR R (at_ + 4 * k + 3) days))) ?_ rfl
    rw [ev]
    simp only [pt, ↓c3, Res.bind_ok, Vl.d_val, ev, peekT, List.getElem?_cons_succ, List.getElem?_cons_zero, bin_add]
  have t : tv (S8 (kk + 1)) (.cmp .lt (.s 5) (.s 2)) [.pk (R.map .int), .val (.int at_), .val (.int days), .val (.int top), .own (rs.map rowD), .val (.int day), .val (.int k), s7] = .ok (decide (day < days)) := by
    simp only [tv, ev, evs, getv, po, pt, peek, peekT, List.getElem?_cons_succ, List.getElem?_cons_zero, Res.bind_ok, Vl.d_val, Vl.d_own, cmp_lt]
  unfold lrBody
  by_cases h : day < days
  · obtain ⟨lo, hi, s7', hu, q⟩ := lr_B1 kk R at_ k days top day hat hk hk3 hlen ht ht2 rs hl s7
    rw [decide_eq_true h] at t
    exact ⟨_, _, _, st_yes t q (fin _ _), by omega, .inl ⟨h, lo, hi, rfl, hu⟩⟩
  · rw [decide_eq_false h] at t
    exact ⟨_, _, _, st_no t (fin _ _), by omega, .inr ⟨by omega, rfl⟩⟩
theorem lrows_ok (kk : Nat) (R : List Int) (at_ days top : Int) (hat : 0 ≤ at_) (hlen : at_ + 16 ≤ R.length) (hd : 1 ≤ days) (hd2 : days ≤ 400) (ht : 0 ≤ top) (ht2 : top ≤ 1000000) :
    ∃ rs, mkErr days rs = none ∧ rs.length ≤ 4 ∧ runFn f_law_rows (S8 (kk + 1)) [.lst (R.map .int), .int at_, .int days, .int top] = .ok (.own (rs.map rowD)) := by
  obtain ⟨e2, l, rs, day, s6, s7, J, hn, hc, hl, _⟩ := for_at (tg := .n 6) (body := exss (S8 (kk + 1)) lrBody) D.int (daysFrom 0 4) (fun i env => ∃ rs day s6 s7, env = [.pk (R.map .int), .val (.int at_), .val (.int days), .val (.int top), .own (rs.map rowD), .val (.int day), s6, s7] ∧ rs.length ≤ i ∧ chk days (-1) rs = none ∧ (i = 0 ∨ rs ≠ []) ∧
      (lastOf (-1) rs < day ∧ 0 ≤ day ∧ (lastOf (-1) rs < 0 → day = 0)))
    (fun i k env hi ⟨rs, day, s6, s7, he, h1, h2, h3, h4, h5, h6⟩ => by
      rw [he]
      have hi4 : i < 4 := by
        have := (List.getElem?_eq_some_iff.mp hi).1
        rw [daysFrom_len] at this
        exact this
      have hk := daysFrom_mem (List.mem_of_getElem? hi)
      obtain ⟨rs', day', s7', q, hd', hh⟩ := lr_step kk R at_ k days top day hat (by omega) (by omega) hlen hd ht ht2 rs (by omega) s7
      refine ⟨_, rfl, _, q, rs', day', _, _, rfl, ?_⟩
      rcases hh with ⟨a, lo, hi', rfl, hu⟩ | ⟨a, rfl⟩
      · refine ⟨by rw [List.length_append, List.length_singleton]; omega, chk_snoc hu rs (-1) h2 ?_, .inr (by simp), ?_⟩
        · unfold okRow
          simp only
          omega
        · rw [lastOf_snoc]
          simp only
          omega
      · refine ⟨by omega, h2, .inr ?_, by omega⟩
        intro e
        rw [e] at h6
        have := h6 (by decide)
        omega) (env := [.pk (R.map .int), .val (.int at_), .val (.int days), .val (.int top), .own [], .val (.int 0), .no, .no]) ⟨[], 0, .no, .no, rfl, Nat.le_refl _, rfl, .inl rfl, by decide, by decide, fun _ => rfl⟩
  rw [daysFrom_len] at hl hn
  have hne : rs ≠ [] := by rcases hl with h | h; exact absurd h (by decide); exact h
  refine ⟨rs, ?_, hn, ?_⟩
  · unfold mkErr chkAll
    rw [if_pos ⟨hd, hd2⟩, if_neg hne]
    exact hc
  · refine run_ret rfl rfl ?_
    show exss (S8 (kk + 1)) f_law_rows.body [.pk (R.map .int), .val (.int at_), .val (.int days), .val (.int top), .no, .no, .no, .no] = _
    unfold f_law_rows
    refine st_asg (v := .own []) rfl ?_
    refine st_asg (v := .val (.int 0)) rfl ?_
    simp only [List.set_cons_succ, List.set_cons_zero, Vl.sl_val, Vl.sl_own]
    refine st_for (itsF_r1 (n := 4) (by simp only [ev]) (inR_s (by omega) (by omega))) l ?_
    rw [J]
    exact st_reto rfl
theorem sums_snoc : ∀ (xs : List Int) (z x : Int), sums z (xs ++ [x]) = sums z xs ++ [z + xs.sum + x]
  | [], z, x => by simp [sums]
  | y :: xs, z, x => by
    rw [List.cons_append, sums, sums, sums_snoc xs (z + y) x, List.cons_append, List.sum_cons]
    congr 3
    omega
theorem sums_last : ∀ (xs : List Int) (z : Int), (sums z xs).getLast? = some (z + xs.sum)
  | [], z => by simp [sums]
  | y :: xs, z => by
    rw [sums, List.sum_cons]
    have := sums_last xs (z + y)
    cases e : sums (z + y) xs with
    | nil => rw [e] at this; cases this
    | cons a b =>
      rw [List.getLast?_cons_cons, ← e, this]
      congr 1
      omega
theorem sums_len' : ∀ (xs : List Int) (z : Int), (sums z xs).length = xs.length + 1
  | [], z => rfl
  | y :: xs, z => by rw [sums, List.length_cons, List.length_cons, sums_len' xs]
theorem lsums_ok (c : Ctx) (days : Int) (rs : List Rw) (h : mkErr days rs = none) (b : Bool) : runFn f_law_sums c [.lst (rs.map rowD), .int days, .int (ptI b)] = .ok (.own ((sums 0 (ptsOf b days rs)).map .int)) := by
  have hS := SLe
  have f := mk_facts h
  have hr := mk_len h
  obtain ⟨e2, l, x4, x5, x6, J⟩ := for_at (tg := .n 4) (body := exss c [.asg [] 5 (.ix (.e (.comp (.n 6) (.sq (.s 0)) [.cmp .le (.e (.ix (.s 6) (.e (.int 0)))) (.s 4)] (.v 6) [6])) (.e (.neg (.int 1)))), .app [] 3 (.bin .add (.e (.ix (.s 3) (.e (.neg (.int 1))))) (.e (.ix (.s 5) (.s 2))))]) D.int (daysFrom 0 days.toNat)
    (fun i env => ∃ x4 x5 x6, env = [.pk (rs.map rowD), .val (.int days), .val (.int (ptI b)), .own ((sums 0 ((ptsOf b days rs).take i)).map .int), x4, x5, x6]) (fun i k env hi ⟨x4, x5, x6, he⟩ => by
      rw [he]
      obtain ⟨hi1, hi2⟩ := List.getElem?_eq_some_iff.mp hi
      rw [daysFrom_len] at hi1
      have hk : k = i := by
        rw [daysFrom_get 0 days.toNat i hi1] at hi
        cases hi
        omega
      have tk : (ptsOf b days rs).take (i + 1) = (ptsOf b days rs).take i ++ [ptOf b (lastRow rs k)] := by
        have q : (ptsOf b days rs)[i]? = some (ptOf b (lastRow rs k)) := by
          unfold ptsOf
          rw [List.getElem?_map, hi]
          rfl
        rw [List.take_succ, q]
        rfl
      obtain ⟨x, hx, ex, _⟩ := begun_ne h (show 0 ≤ k by omega)
      have e1 : ev c (.comp (.n 6) (.sq (.s 0)) [.cmp .le (.e (.ix (.s 6) (.e (.int 0)))) (.s 4)] (.v 6) [6]) [.pk (rs.map rowD), .val (.int days), .val (.int (ptI b)), .own ((sums 0 ((ptsOf b days rs).take i)).map .int), .val (.int k), x5, x6] = .ok (.own ((begun rs k).map rowD)) := by
        rw [ev_comp (ds := rs.map rowD) (by simp only [its, ev, evs, getv, po, pt, peek, peekT, List.getElem?_cons_succ, List.getElem?_cons_zero, Res.bind_ok, Vl.d_val, Vl.d_own, walkOf])]
        rw [comp_fm rowD (fun r => if decide (r.1 ≤ k) = true then some (rowD r) else none) rs [] (fun r _ => ?_) (by simp only [List.length_nil]; omega)]
        · rw [filterMap_if (fun r : Rw => decide (r.1 ≤ k)) rowD rs]
          rfl
        · simp only [turnD, wipeE, setT, List.set_cons_succ, List.set_cons_zero, tvs, tv, ev, evs, getv, po, pt, peek, peekT, List.getElem?_cons_succ, List.getElem?_cons_zero, Res.bind_ok, Vl.d_val, Vl.d_own, row_0, cmp_le]
          by_cases h : r.1 ≤ k <;> simp [h]
      have i1 : index (.lst ((begun rs k).map rowD)) (.int (-1)) = .ok (rowD x) := index_neg1 (by rw [List.getLast?_map, hx]; rfl)
      have i2 : index (.lst ((sums 0 ((ptsOf b days rs).take i)).map D.int)) (.int (-1)) = .ok (.int (0 + ((ptsOf b days rs).take i).sum)) := index_neg1 (by rw [List.getLast?_map, sums_last]; rfl)
      have i3 := row_pt b x
      refine ⟨[.pk (rs.map rowD), .val (.int days), .val (.int (ptI b)), .own ((sums 0 ((ptsOf b days rs).take i)).map .int), .val (.int k), x5, x6], rfl, [.pk (rs.map rowD), .val (.int days), .val (.int (ptI b)), .own ((sums 0 ((ptsOf b days rs).take (i + 1))).map .int), .val (.int k), .val (rowD x), x6], ?_, _, _, _, rfl⟩
      refine st_asg (v := .val (rowD x)) ?_ ?_
      · rw [ev]
        simp only [po, e1, Res.bind_ok, Vl.d_own]
        simp only [ev, Res.bind_ok, Vl.d_val, neg, i1]
      · simp only [List.set_cons_succ, List.set_cons_zero, Vl.sl_val, Vl.sl_own]
        refine st_app (ds := (sums 0 ((ptsOf b days rs).take i)).map .int) (v := .val (.int (0 + ((ptsOf b days rs).take i).sum + ptOf b x))) rfl (by rw [List.length_map, sums_len', List.length_take]; omega) ?_ ?_
        · simp only [ev, evs, getv, po, pt, peek, peekT, List.getElem?_cons_succ, List.getElem?_cons_zero, Res.bind_ok, Vl.d_val, Vl.d_own, neg, i2, i3, bin_add]
        · rw [tk, sums_snoc, ex, List.map_append]
          rfl) (env := [.pk (rs.map rowD), .val (.int days), .val (.int (ptI b)), .own [.int 0], .no, .no, .no]) ⟨_, _, _, rfl⟩
  rw [daysFrom_len, show days.toNat = (ptsOf b days rs).length from (ptsOf_len b days rs).symm, List.take_length] at J
  refine run_ret rfl rfl ?_
  show exss c f_law_sums.body [.pk (rs.map rowD), .val (.int days), .val (.int (ptI b)), .no, .no, .no, .no] = _
  unfold f_law_sums
  refine st_asg (v := .own [.int 0]) rfl ?_
  simp only [List.set_cons_succ, List.set_cons_zero, Vl.sl_val, Vl.sl_own]
  refine st_for (itsF_r1 (n := days) (by simp only [ev, evs, getv, po, pt, peek, peekT, List.getElem?_cons_succ, List.getElem?_cons_zero, Res.bind_ok, Vl.d_val, Vl.d_own]) (inR_s (by omega) (by omega))) l ?_
  rw [J]
  exact st_reto rfl
theorem six {xs : List Int} {i : Int} (h0 : 0 ≤ i) (h1 : i ≤ xs.length) : index (.lst ((sums 0 xs).map D.int)) (.int i) = .ok (.int (sumAt xs i)) := index_ints h0 (by rw [sums_len']; omega)
theorem joined_ok (c : Ctx) {lo hi : List Int} (M : Lm lo hi) {s t : Sp} (hs : okS lo s) (ht : okS lo t) : runFn f_law_joined c [.lst ((sums 0 lo).map .int), .lst ((sums 0 hi).map .int), prD s, prD t] = .ok (.val (.bl (joinB lo hi s t))) := by
  refine run_ret rfl rfl ?_
  show exss c f_law_joined.body [.pk ((sums 0 lo).map .int), .pk ((sums 0 hi).map .int), .val (prD s), .val (prD t), .no, .no] = _
  have hl := M.len
  have a1 := six (xs := lo) hs.1.1 hs.1.2
  have a2 := six (xs := lo) ht.1.1 ht.1.2
  have b1' := six (xs := hi) (i := s.1) hs.1.1 (by have := hs.1.2; omega)
  have b2' := six (xs := hi) (i := t.1) ht.1.1 (by have := ht.1.2; omega)
  unfold f_law_joined
  refine st_asg (v := .val (.int (dA lo s.1 t.1))) (by simp only [ev, evs, getv, po, pt, peek, peekT, List.getElem?_cons_succ, List.getElem?_cons_zero, Res.bind_ok, Vl.d_val, Vl.d_own, pr_0, a1, a2, bin_sub]; rfl) ?_
  simp only [List.set_cons_succ, List.set_cons_zero, Vl.sl_val, Vl.sl_own]
  refine st_asg (v := .val (.int (dA hi s.1 t.1))) (by simp only [ev, evs, getv, po, pt, peek, peekT, List.getElem?_cons_succ, List.getElem?_cons_zero, Res.bind_ok, Vl.d_val, Vl.d_own, pr_0, b1', b2', bin_sub]; rfl) ?_
  simp only [List.set_cons_succ, List.set_cons_zero, Vl.sl_val, Vl.sl_own]
  refine st_ret ?_
  simp only [ev, evs, getv, po, pt, peek, peekT, List.getElem?_cons_succ, List.getElem?_cons_zero, Res.bind_ok, Vl.d_val, Vl.d_own, pr_1, b2_min, b2_max, bin_sub, cmp_le, ofB]
  unfold joinB rch
  simp only
  by_cases h : min (dA lo s.1 t.1) (dA hi s.1 t.1) ≤ t.2 - s.2
  · rw [decide_eq_true h, Bool.true_and, if_pos rfl]
  · rw [decide_eq_false h, Bool.false_and, if_neg (by decide)]
theorem joined33 (k : Nat) {lo hi : List Int} (M : Lm lo hi) {s t : Sp} (hs : okS lo s) (ht : okS lo t) : (S8 (k + 1)).call 33 [.lst ((sums 0 lo).map .int), .lst ((sums 0 hi).map .int), prD s, prD t] = .ok (.val (.bl (joinB lo hi s t))) := by
  rw [s8, call_33]
  exact joined_ok _ M hs ht
/-! ### the law draws, 2 -/
theorem sumAt_0 (xs : List Int) : sumAt xs 0 = 0 := by
  have := sumAt_take xs 0 (by omega)
  simpa using this
theorem wide_nn {lo hi : List Int} (M : Lm lo hi) : 0 ≤ sumAt hi lo.length - sumAt lo lo.length := by
  have := dA_le M (i := 0) (j := lo.length) (by omega) (by omega) (by omega)
  unfold dA at this
  rw [sumAt_0, sumAt_0] at this
  omega
theorem hid_ok (kk : Nat) (R : List Int) (at_ : Int) (hat : 0 ≤ at_) (hlen : at_ + 11 ≤ R.length) {lo hi : List Int} (M : Lm lo hi) : ∃ H : List Rw3, H.length = 3 ∧ (∀ h ∈ H, 0 ≤ h.2.1 ∧ h.2.1 ≤ lo.length) ∧
    runFn f_law_hidden (S8 (kk + 1)) [.lst (R.map .int), .int at_, .lst ((sums 0 lo).map .int), .lst ((sums 0 hi).map .int)] = .ok (.own (H.map rowD)) := by
  have hS := SLe
  have hml := M.len
  obtain ⟨w, hw⟩ : ∃ w, w = sumAt hi lo.length - sumAt lo lo.length := ⟨_, rfl⟩
  have w0 := wide_nn M
  rw [← hw] at w0
  obtain ⟨bg, hbg⟩ : ∃ bg : Int, ∀ r : Env, ev (S8 (kk + 1)) (.bin .mul (.e (.ix (.e (.lst [.int 0, .int 0, .int 1000, .neg (.int 1000)])) (.e (.call 29 [.p (.s 0), .p (.s 1), .e (.int 4)])))) (.e (.call 29 [.p (.s 0), .p (.e (.bin .add (.s 1) (.e (.int 1)))), .e (.int 1000000)]))) (.pk (R.map .int) :: .val (.int at_) :: r) = .ok (.val (.int bg)) := by
    have g0 := at29 kk R at_ 4 (by omega) (by omega) (by omega)
    have g1 := at29 kk R (at_ + 1) 1000000 (by omega) (by omega) (by omega)
    have f0 := atR_b (R := R) (i := at_) (m := 4) (by omega)
    have f1 := atR_b (R := R) (i := at_ + 1) (m := 1000000) (by omega)
    have c0 := fun r => ev_call (c := S8 (kk + 1)) (env := .pk (R.map .int) :: .val (.int at_) :: r) (es := [.p (.s 0), .p (.s 1), .e (.int 4)]) (by simp only [args, arg, ev, evs, getv, po, pt, peek, peekT, List.getElem?_cons_succ, List.getElem?_cons_zero, Res.bind_ok, Vl.d_val, Vl.d_own]) g0
    have c1 := fun r => ev_call (c := S8 (kk + 1)) (env := .pk (R.map .int) :: .val (.int at_) :: r) (es := [.p (.s 0), .p (.e (.bin .add (.s 1) (.e (.int 1)))), .e (.int 1000000)]) (by simp only [args, arg, ev, evs, getv, po, pt, peek, peekT, List.getElem?_cons_succ, List.getElem?_cons_zero, Res.bind_ok, Vl.d_val, Vl.d_own, bin_add]) g1
    have lst4 : ∀ env, ev (S8 (kk + 1)) (.lst [.int 0, .int 0, .int 1000, .neg (.int 1000)]) env = .ok (.own ([0, 0, 1000, -1000].map D.int)) := fun env => rfl
    have ix := index_ints (R := [0, 0, 1000, -1000]) (i := atR R at_ 4) f0.1 f0.2
    have bm := bin_mul ([0, 0, 1000, -1000].getD (atR R at_ 4).toNat 0) (atR R (at_ + 1) 1000000) (mul_r (by omega) (by omega))
    refine ⟨[0, 0, 1000, -1000].getD (atR R at_ 4).toNat 0 * atR R (at_ + 1) 1000000, fun r => ?_⟩
    rw [ev]
    simp only [pt, ↓c1]
    rw [ev]
    simp only [po, ↓c0, ↓lst4, Res.bind_ok, Vl.d_own, Vl.d_val, ix, bm]
  obtain ⟨F, hF⟩ : ∃ F : Int → Rw3, ∀ k, F k = (bg + atR R (at_ + 2 + 3 * k) (w + 21) - 10 - w.fdiv 2, atR R (at_ + 3 + 3 * k) (lo.length + 1), atR R (at_ + 4 + 3 * k) (w + 1)) := ⟨_, fun k => rfl⟩
  refine ⟨(daysFrom 0 3).map F, by rw [List.length_map, daysFrom_len], fun h hh => ?_, run_ret rfl rfl ?_⟩
  · obtain ⟨k, hk, rfl⟩ := List.mem_map.mp hh
    rw [hF]
    have := atR_b (R := R) (i := at_ + 3 + 3 * k) (m := lo.length + 1) (by omega)
    simp only
    omega
  show exss (S8 (kk + 1)) f_law_hidden.body [.pk (R.map .int), .val (.int at_), .pk ((sums 0 lo).map .int), .pk ((sums 0 hi).map .int), .no, .no, .no, .no, .no, .no] = _
  have i1 := six (xs := lo) (i := lo.length) (by omega) (by omega)
  have i2 := six (xs := hi) (i := lo.length) (by omega) (by omega)
  obtain ⟨x2, hx2⟩ : ∃ x2, x2 = Sl.pk ((sums 0 lo).map D.int) := ⟨_, rfl⟩
  obtain ⟨x3, hx3⟩ : ∃ x3, x3 = Sl.pk ((sums 0 hi).map D.int) := ⟨_, rfl⟩
  rw [← hx2, ← hx3]
  unfold f_law_hidden
  refine st_asg (v := .val (.int lo.length)) (by rw [hx2]; simp only [ev, evs, getv, po, pt, peek, peekT, List.getElem?_cons_succ, List.getElem?_cons_zero, Res.bind_ok, Vl.d_val, Vl.d_own, b1, len, List.length_map, sums_len', bin_sub]; rw [show ((lo.length + 1 : Nat) : Int) - 1 = lo.length by omega]) ?_
  simp only [List.set_cons_succ, List.set_cons_zero, Vl.sl_val, Vl.sl_own]
  refine st_asg (v := .val (.int w)) (by rw [hx2, hx3]; simp only [ev, evs, getv, po, pt, peek, peekT, List.getElem?_cons_succ, List.getElem?_cons_zero, Res.bind_ok, Vl.d_val, Vl.d_own, i1, i2, bin_sub, hw]) ?_
  simp only [List.set_cons_succ, List.set_cons_zero, Vl.sl_val, Vl.sl_own]
  refine st_asg (hbg _) ?_
  simp only [List.set_cons_succ, List.set_cons_zero, Vl.sl_val, Vl.sl_own]
  refine st_asg (v := .own []) rfl ?_
  simp only [List.set_cons_succ, List.set_cons_zero, Vl.sl_val, Vl.sl_own]
  obtain ⟨e2, l, x8, x9, J⟩ := for_map (tg := .n 8) (body := exss (S8 (kk + 1)) [.asg [] 9 (.bin .sub (.e (.bin .sub (.e (.bin .add (.s 6) (.e (.call 29 [.p (.s 0), .p (.e (.bin .add (.e (.bin .add (.s 1) (.e (.int 2)))) (.e (.bin .mul (.e (.int 3)) (.s 8))))), .e (.bin .add (.s 5) (.e (.int 21)))])))) (.e (.int 10)))) (.e (.bin .fdiv (.s 5) (.e (.int 2))))), .app [] 7 (.tup [.v 9, .call 29 [.p (.s 0), .p (.e (.bin .add (.e (.bin .add (.s 1) (.e (.int 3)))) (.e (.bin .mul (.e (.int 3)) (.s 8))))), .e (.bin .add (.s 4) (.e (.int 1)))], .call 29 [.p (.s 0), .p (.e (.bin .add (.e (.bin .add (.s 1) (.e (.int 4)))) (.e (.bin .mul (.e (.int 3)) (.s 8))))), .e (.bin .add (.s 5) (.e (.int 1)))]])]) D.int (fun k => rowD (F k)) (fun acc env => ∃ x8 x9, env = [.pk (R.map .int), .val (.int at_), x2, x3, .val (.int lo.length), .val (.int w), .val (.int bg), .own acc, x8, x9]) (daysFrom 0 3) [] [.pk (R.map .int), .val (.int at_), x2, x3, .val (.int lo.length), .val (.int w), .val (.int bg), .own [], .no, .no] (fun k hk acc env hl2 ⟨x8, x9, he⟩ => by
    rw [he]
    have hd := daysFrom_mem hk
    have mm := bin_mul 3 k (mul_l (by omega) (by omega))
    have d2 := bin_div w 2 (div_ne (by omega))
    obtain ⟨st, hst⟩ : ∃ st, st = bg + atR R (at_ + 2 + 3 * k) (w + 21) - 10 - w.fdiv 2 := ⟨_, rfl⟩
    refine ⟨[.pk (R.map .int), .val (.int at_), x2, x3, .val (.int lo.length), .val (.int w), .val (.int bg), .own acc, .val (.int k), x9], rfl, [.pk (R.map .int), .val (.int at_), x2, x3, .val (.int lo.length), .val (.int w), .val (.int bg), .own (acc ++ [rowD (F k)]), .val (.int k), .val (.int st)], .inl ?_, _, _, rfl⟩
    have c2 := ev_call (c := S8 (kk + 1)) (env := [.pk (R.map .int), .val (.int at_), x2, x3, .val (.int lo.length), .val (.int w), .val (.int bg), .own acc, .val (.int k), x9]) (es := [.p (.s 0), .p (.e (.bin .add (.e (.bin .add (.s 1) (.e (.int 2)))) (.e (.bin .mul (.e (.int 3)) (.s 8))))), .e (.bin .add (.s 5) (.e (.int 21)))]) (by simp only [args, arg, ev, evs, getv, po, pt, peek, peekT, List.getElem?_cons_succ, List.getElem?_cons_zero, Res.bind_ok, Vl.d_val, Vl.d_own, mm, bin_add]) (at29 kk R (at_ + 2 + 3 * k) (w + 21) (by omega) (by omega) (by omega))
    have c3 := ev_call (c := S8 (kk + 1)) (env := [.pk (R.map .int), .val (.int at_), x2, x3, .val (.int lo.length), .val (.int w), .val (.int bg), .own acc, .val (.int k), .val (.int st)]) (es := [.p (.s 0), .p (.e (.bin .add (.e (.bin .add (.s 1) (.e (.int 3)))) (.e (.bin .mul (.e (.int 3)) (.s 8))))), .e (.bin .add (.s 4) (.e (.int 1)))]) (by simp only [args, arg, ev, evs, getv, po, pt, peek, peekT, List.getElem?_cons_succ, List.getElem?_cons_zero, Res.bind_ok, Vl.d_val, Vl.d_own, mm, bin_add]) (at29 kk R (at_ + 3 + 3 * k) (lo.length + 1) (by omega) (by omega) (by omega))
    have c4 := ev_call (c := S8 (kk + 1)) (env := [.pk (R.map .int), .val (.int at_), x2, x3, .val (.int lo.length), .val (.int w), .val (.int bg), .own acc, .val (.int k), .val (.int st)]) (es := [.p (.s 0), .p (.e (.bin .add (.e (.bin .add (.s 1) (.e (.int 4)))) (.e (.bin .mul (.e (.int 3)) (.s 8))))), .e (.bin .add (.s 5) (.e (.int 1)))]) (by simp only [args, arg, ev, evs, getv, po, pt, peek, peekT, List.getElem?_cons_succ, List.getElem?_cons_zero, Res.bind_ok, Vl.d_val, Vl.d_own, mm, bin_add]) (at29 kk R (at_ + 4 + 3 * k) (w + 1) (by omega) (by omega) (by omega))
    refine st_asg (v := .val (.int st)) ?_ ?_
    · simp only [ev, pt, peekT, List.getElem?_cons_succ, List.getElem?_cons_zero, ↓c2, Res.bind_ok, Vl.d_val, bin_add, bin_sub, d2, hst]
    · simp only [List.set_cons_succ, List.set_cons_zero, Vl.sl_val, Vl.sl_own]
      refine st_app (v := .val (rowD (F k))) rfl hl2 ?_ rfl
      rw [hF, ← hst]
      exact tup3 (by simp only [ev, evs, getv, po, pt, peek, peekT, List.getElem?_cons_succ, List.getElem?_cons_zero, Res.bind_ok, Vl.d_val, Vl.d_own]) c3 c4) (by rw [daysFrom_len, List.length_nil]; omega) ⟨_, _, rfl⟩
  refine st_for (itsF_r1 (n := 3) (by simp only [ev, evs, getv, po, pt, peek, peekT, List.getElem?_cons_succ, List.getElem?_cons_zero, Res.bind_ok, Vl.d_val, Vl.d_own]) (inR_s (by omega) (by omega))) l ?_
  rw [J]
  refine st_reto ?_
  rw [List.nil_append, List.map_map]
  rfl
theorem moved_ok (kk : Nat) (R : List Int) (at_ : Int) (hat : 0 ≤ at_) (hlen : at_ + 3 ≤ R.length) : ∃ v : Int, runFn f_law_moved (S8 (kk + 1)) [.lst (R.map .int), .int at_] = .ok (.val (.int v)) := by
  have c0 := fun r => ev_call (c := S8 (kk + 1)) (env := .pk (R.map .int) :: .val (.int at_) :: r) (es := [.p (.s 0), .p (.s 1), .e (.int 9)]) (by simp only [args, arg, ev, evs, getv, po, pt, peek, peekT, List.getElem?_cons_succ, List.getElem?_cons_zero, Res.bind_ok, Vl.d_val, Vl.d_own]) (at29 kk R at_ 9 (by omega) (by omega) (by omega))
  have c1 := fun r => ev_call (c := S8 (kk + 1)) (env := .pk (R.map .int) :: .val (.int at_) :: r) (es := [.p (.s 0), .p (.e (.bin .add (.s 1) (.e (.int 1)))), .e (.int 41)]) (by simp only [args, arg, ev, evs, getv, po, pt, peek, peekT, List.getElem?_cons_succ, List.getElem?_cons_zero, Res.bind_ok, Vl.d_val, Vl.d_own, bin_add]) (at29 kk R (at_ + 1) 41 (by omega) (by omega) (by omega))
  have c2 := fun r => ev_call (c := S8 (kk + 1)) (env := .pk (R.map .int) :: .val (.int at_) :: r) (es := [.p (.s 0), .p (.e (.bin .add (.s 1) (.e (.int 1)))), .e (.int 1000000)]) (by simp only [args, arg, ev, evs, getv, po, pt, peek, peekT, List.getElem?_cons_succ, List.getElem?_cons_zero, Res.bind_ok, Vl.d_val, Vl.d_own, bin_add]) (at29 kk R (at_ + 1) 1000000 (by omega) (by omega) (by omega))
  have c3 := fun r => ev_call (c := S8 (kk + 1)) (env := .pk (R.map .int) :: .val (.int at_) :: r) (es := [.p (.s 0), .p (.e (.bin .add (.s 1) (.e (.int 2)))), .e (.int 1001)]) (by simp only [args, arg, ev, evs, getv, po, pt, peek, peekT, List.getElem?_cons_succ, List.getElem?_cons_zero, Res.bind_ok, Vl.d_val, Vl.d_own, bin_add]) (at29 kk R (at_ + 2) 1001 (by omega) (by omega) (by omega))
  obtain ⟨kd, hkd⟩ : ∃ kd, kd = atR R at_ 9 := ⟨_, rfl⟩
  have mp := fun z => bin_mul 1000 z (mul_l (by omega) (by omega))
  have mn := fun z => bin_mul (-1000) z (mul_l (by omega) (by omega))
  have t : ∀ z : Int, tv (S8 (kk + 1)) (.cmp .eq (.s 2) (.e (.int z))) [.pk (R.map .int), .val (.int at_), .val (.int kd)] = .ok (kd == z) := fun z => by simp only [tv, ev, evs, getv, po, pt, peek, peekT, List.getElem?_cons_succ, List.getElem?_cons_zero, Res.bind_ok, Vl.d_val, Vl.d_own, cmp_eq]
  have go : ∀ v, exss (S8 (kk + 1)) f_law_moved.body [.pk (R.map .int), .val (.int at_), .no] = .ret (.val (.int v)) → runFn f_law_moved (S8 (kk + 1)) [.lst (R.map .int), .int at_] = .ok (.val (.int v)) := fun v h => run_ret rfl rfl h
  have a0 : ∀ (r : List PL.S) (o : Out), exss (S8 (kk + 1)) r [.pk (R.map .int), .val (.int at_), .val (.int kd)] = o → exss (S8 (kk + 1)) (.asg [] 2 (.call 29 [.p (.s 0), .p (.s 1), .e (.int 9)]) :: r) [.pk (R.map .int), .val (.int at_), .no] = o := fun r o h => st_asg (c0 _) (by rw [← hkd]; exact h)
  cases h4 : kd == 4 with
  | true => exact ⟨1, go _ (a0 _ _ (st_yesR ((t 4).trans (by rw [h4])) (st_ret rfl)))⟩
  | false =>
    cases h5 : kd == 5 with
    | true => exact ⟨-1, go _ (a0 _ _ (st_no ((t 4).trans (by rw [h4])) (st_yesR ((t 5).trans (by rw [h5])) (st_ret rfl))))⟩
    | false =>
      cases h6 : kd == 6 with
      | true => exact ⟨_, go _ (a0 _ _ (st_no ((t 4).trans (by rw [h4])) (st_no ((t 5).trans (by rw [h5])) (st_yesR ((t 6).trans (by rw [h6])) (st_ret (v := .val (.int (atR R (at_ + 1) 41 - 20))) (by rw [ev]; simp only [pt, ↓c1, Res.bind_ok, Vl.d_val, ev, bin_sub]))))))⟩
      | false =>
        cases h7 : kd == 7 with
        | true => exact ⟨_, go _ (a0 _ _ (st_no ((t 4).trans (by rw [h4])) (st_no ((t 5).trans (by rw [h5])) (st_no ((t 6).trans (by rw [h6])) (st_yesR ((t 7).trans (by rw [h7])) (st_ret (v := .val (.int (1000 * atR R (at_ + 1) 1000000 + atR R (at_ + 2) 1001))) (by rw [ev]; simp only [pt, ↓c3]; rw [ev]; simp only [pt, ↓c2, Res.bind_ok, Vl.d_val, ev, mp, bin_add])))))))⟩
        | false =>
          cases h8 : kd == 8 with
          | true => exact ⟨_, go _ (a0 _ _ (st_no ((t 4).trans (by rw [h4])) (st_no ((t 5).trans (by rw [h5])) (st_no ((t 6).trans (by rw [h6])) (st_no ((t 7).trans (by rw [h7])) (st_yesR ((t 8).trans (by rw [h8])) (st_ret (v := .val (.int (-1000 * atR R (at_ + 1) 1000000 - atR R (at_ + 2) 1001))) (by rw [ev]; simp only [pt, ↓c3]; rw [ev]; simp only [pt, ↓c2, Res.bind_ok, Vl.d_val, ev, neg, mn, bin_sub]))))))))⟩
          | false => exact ⟨0, go _ (a0 _ _ (st_no ((t 4).trans (by rw [h4])) (st_no ((t 5).trans (by rw [h5])) (st_no ((t 6).trans (by rw [h6])) (st_no ((t 7).trans (by rw [h7])) (st_no ((t 8).trans (by rw [h8])) (st_ret rfl)))))))⟩
theorem isin_int (k : Int) (mv : List Int) : ∃ b, cmp .isin (.int k) (.lst (mv.map D.int)) = .ok b := by
  have h : eqOks 59 (mv.map D.int) = true := eqOks_map (fun x => by simp [eqOk]) mv
  exact ⟨(mv.map D.int).any fun y => eqD y (.int k), by simp only [cmp, eqOk, h, Bool.and_self, if_true]⟩
theorem slips_ok (kk : Nat) (R : List Int) (count : Int) (hc : 0 ≤ count ∧ count ≤ 40) (hlen : R.length = 200) {lo hi : List Int} (M : Lm lo hi) (H : List Rw3) (hH : H ≠ []) (hH2 : H.length ≤ 100) (hm : ∀ h ∈ H, 0 ≤ h.2.1 ∧ h.2.1 ≤ lo.length) (mv : List Int) :
    ∃ L : List Sp, L.length = count.toNat ∧ (∀ s ∈ L, okS lo s) ∧ runFn f_law_slips (S8 (kk + 2)) [.lst (R.map .int), .int count, .lst ((sums 0 lo).map .int), .lst ((sums 0 hi).map .int), .lst (H.map rowD), .lst (mv.map .int)] = .ok (.own (L.map prD)) := by
  have hS := SLe
  have hml := M.len
  have hHl : 0 < H.length := List.length_pos_iff.mpr hH
  obtain ⟨x2, hx2⟩ : ∃ x2, x2 = Sl.pk ((sums 0 lo).map D.int) := ⟨_, rfl⟩
  obtain ⟨x3, hx3⟩ : ∃ x3, x3 = Sl.pk ((sums 0 hi).map D.int) := ⟨_, rfl⟩
  obtain ⟨x4, hx4⟩ : ∃ x4, x4 = Sl.pk (H.map rowD) := ⟨_, rfl⟩
  obtain ⟨x5, hx5⟩ : ∃ x5, x5 = Sl.pk (mv.map D.int) := ⟨_, rfl⟩
  obtain ⟨e2, l, L, x7, x8, x9, x10, x11, J, hL1, hL2⟩ := for_at (tg := .n 7) (body := exss (S8 (kk + 2)) [.asg [] 8 (.call 29 [.p (.s 0), .p (.e (.bin .mul (.e (.int 5)) (.s 7))), .e (.b1 .len (.s 2))]), .asg [] 9 (.ix (.s 4) (.e (.call 29 [.p (.s 0), .p (.e (.bin .add (.e (.bin .mul (.e (.int 5)) (.s 7))) (.e (.int 1)))), .e (.b1 .len (.s 4))]))), .asg [] 10 (.bin .add (.e (.bin .sub (.e (.bin .sub (.e (.ix (.s 3) (.s 8))) (.e (.ix (.s 2) (.s 8))))) (.e (.ix (.s 3) (.e (.ix (.s 9) (.e (.int 1)))))))) (.e (.ix (.s 2) (.e (.ix (.s 9) (.e (.int 1))))))), .asg [] 11 (.bin .add (.e (.bin .add (.e (.ix (.s 9) (.e (.int 0)))) (.e (.ix (.s 2) (.s 8))))) (.e (.b2 .max (.e (.int 0)) (.e (.b2 .min (.s 10) (.e (.ix (.s 9) (.e (.int 2))))))))), .ite [] (.cmp .isin (.s 7) (.s 5)) [.asg [] 11 (.bin .add (.s 11) (.e (.call 35 [.p (.s 0), .e (.bin .add (.e (.bin .mul (.e (.int 5)) (.s 7))) (.e (.int 2)))])))] [], .app [] 6 (.tup [.v 8, .b2 .max (.e (.neg (.int 1000000000))) (.e (.b2 .min (.e (.int 1000000000)) (.s 11)))])]) D.int (daysFrom 0 count.toNat)
    (fun i env => ∃ (L : List Sp) (x7 x8 x9 x10 x11 : Sl), env = [.pk (R.map .int), .val (.int count), x2, x3, x4, x5, .own (L.map prD), x7, x8, x9, x10, x11] ∧ L.length = i ∧ ∀ s ∈ L, okS lo s) (fun i k env hik ⟨L, x7, x8, x9, x10, x11, he, hL1, hL2⟩ => by
      rw [he]
      have hd := daysFrom_mem (List.mem_of_getElem? hik)
      obtain ⟨hi1, _⟩ := List.getElem?_eq_some_iff.mp hik
      rw [daysFrom_len] at hi1
      have m5 := bin_mul 5 k (mul_l (by omega) (by omega))
      obtain ⟨m, hm0⟩ : ∃ m, m = atR R (5 * k) (lo.length + 1) := ⟨_, rfl⟩
      have mb := atR_b (R := R) (i := 5 * k) (m := lo.length + 1) (by omega)
      rw [← hm0] at mb
      have ab := atR_b (R := R) (i := 5 * k + 1) (m := H.length) (by omega)
      obtain ⟨one, hone⟩ : ∃ one, H[(atR R (5 * k + 1) H.length).toNat]? = some one := ⟨H[(atR R (5 * k + 1) H.length).toNat]'(by omega), List.getElem?_eq_getElem _⟩
      have ho := hm one (List.mem_of_getElem? hone)
      have ih := index_map rowD ab.1 hone
      have i1 := six (xs := lo) (i := m) mb.1 (by omega)
      have i2 := six (xs := hi) (i := m) mb.1 (by omega)
      have i3 := six (xs := lo) (i := one.2.1) ho.1 (by omega)
      have i4 := six (xs := hi) (i := one.2.1) ho.1 (by omega)
      have c0 := ev_call (c := S8 (kk + 2)) (env := [.pk (R.map .int), .val (.int count), x2, x3, x4, x5, .own (L.map prD), .val (.int k), x8, x9, x10, x11]) (es := [.p (.s 0), .p (.e (.bin .mul (.e (.int 5)) (.s 7))), .e (.b1 .len (.s 2))]) (ds := [.lst (R.map .int), .int (5 * k), .int (lo.length + 1)]) (by rw [hx2]; simp only [args, arg, ev, evs, getv, po, pt, peek, peekT, List.getElem?_cons_succ, List.getElem?_cons_zero, Res.bind_ok, Vl.d_val, Vl.d_own, m5, b1, len, List.length_map, sums_len']; rfl) (at29 (kk + 1) R (5 * k) (lo.length + 1) (by omega) (by omega) (by omega))
      rw [← hm0] at c0
      have c1 := ev_call (c := S8 (kk + 2)) (env := [.pk (R.map .int), .val (.int count), x2, x3, x4, x5, .own (L.map prD), .val (.int k), .val (.int m), x9, x10, x11]) (es := [.p (.s 0), .p (.e (.bin .add (.e (.bin .mul (.e (.int 5)) (.s 7))) (.e (.int 1)))), .e (.b1 .len (.s 4))]) (ds := [.lst (R.map .int), .int (5 * k + 1), .int H.length]) (by rw [hx4]; simp only [args, arg, ev, evs, getv, po, pt, peek, peekT, List.getElem?_cons_succ, List.getElem?_cons_zero, Res.bind_ok, Vl.d_val, Vl.d_own, m5, bin_add, b1, len, List.length_map]) (at29 (kk + 1) R (5 * k + 1) H.length (by omega) (by omega) (by omega))
      obtain ⟨mvv, hmv⟩ := moved_ok kk R (5 * k + 2) (by omega) (by omega)
      have g35 : (S8 (kk + 2)).call 35 [.lst (R.map .int), .int (5 * k + 2)] = .ok (.val (.int mvv)) := by rw [s8, call_35]; exact hmv
      obtain ⟨sl, hsl⟩ : ∃ sl, sl = sumAt hi m - sumAt lo m - sumAt hi one.2.1 + sumAt lo one.2.1 := ⟨_, rfl⟩
      obtain ⟨tot, htot⟩ : ∃ tot, tot = one.1 + sumAt lo m + max 0 (min sl one.2.2) := ⟨_, rfl⟩
      obtain ⟨b, hb⟩ := isin_int k mv
      have fin : ∀ tot : Int, exss (S8 (kk + 2)) [.app [] 6 (.tup [.v 8, .b2 .max (.e (.neg (.int 1000000000))) (.e (.b2 .min (.e (.int 1000000000)) (.s 11)))])] [.pk (R.map .int), .val (.int count), x2, x3, x4, x5, .own (L.map prD), .val (.int k), .val (.int m), .val (rowD one), .val (.int sl), .val (.int tot)] = .nx [.pk (R.map .int), .val (.int count), x2, x3, x4, x5, .own ((L ++ [(m, max (-1000000000) (min 1000000000 tot))]).map prD), .val (.int k), .val (.int m), .val (rowD one), .val (.int sl), .val (.int tot)] := fun tot => by
        refine st_app (v := .val (prD (m, max (-1000000000) (min 1000000000 tot)))) rfl (by rw [List.length_map]; omega) (tup2 (by simp only [ev, evs, getv, po, pt, peek, peekT, List.getElem?_cons_succ, List.getElem?_cons_zero, Res.bind_ok, Vl.d_val, Vl.d_own]) (by simp only [ev, evs, getv, po, pt, peek, peekT, List.getElem?_cons_succ, List.getElem?_cons_zero, Res.bind_ok, Vl.d_val, Vl.d_own, neg, b2_min, b2_max])) ?_
        rw [List.map_append]
        rfl
      have okN : ∀ tot : Int, ∀ s ∈ L ++ [(m, max (-1000000000) (min 1000000000 tot))], okS lo s := fun tot s hs => by
        rcases List.mem_append.mp hs with hs | hs
        · exact hL2 s hs
        · rw [List.mem_singleton] at hs
          rw [hs]
          unfold okS
          simp only
          omega
      have pre : ∀ (r : List PL.S) (o : Out), exss (S8 (kk + 2)) r [.pk (R.map .int), .val (.int count), x2, x3, x4, x5, .own (L.map prD), .val (.int k), .val (.int m), .val (rowD one), .val (.int sl), .val (.int tot)] = o → exss (S8 (kk + 2)) (.asg [] 8 (.call 29 [.p (.s 0), .p (.e (.bin .mul (.e (.int 5)) (.s 7))), .e (.b1 .len (.s 2))]) :: .asg [] 9 (.ix (.s 4) (.e (.call 29 [.p (.s 0), .p (.e (.bin .add (.e (.bin .mul (.e (.int 5)) (.s 7))) (.e (.int 1)))), .e (.b1 .len (.s 4))]))) :: .asg [] 10 (.bin .add (.e (.bin .sub (.e (.bin .sub (.e (.ix (.s 3) (.s 8))) (.e (.ix (.s 2) (.s 8))))) (.e (.ix (.s 3) (.e (.ix (.s 9) (.e (.int 1)))))))) (.e (.ix (.s 2) (.e (.ix (.s 9) (.e (.int 1))))))) :: .asg [] 11 (.bin .add (.e (.bin .add (.e (.ix (.s 9) (.e (.int 0)))) (.e (.ix (.s 2) (.s 8))))) (.e (.b2 .max (.e (.int 0)) (.e (.b2 .min (.s 10) (.e (.ix (.s 9) (.e (.int 2))))))))) :: r) [.pk (R.map .int), .val (.int count), x2, x3, x4, x5, .own (L.map prD), .val (.int k), x8, x9, x10, x11] = o := fun r o h => by
        refine st_asg c0 ?_
        simp only [List.set_cons_succ, List.set_cons_zero, Vl.sl_val, Vl.sl_own]
        refine st_asg (v := .val (rowD one)) ?_ ?_
        · rw [ev]
          simp only [po, ↓c1, peek, List.getElem?_cons_succ, List.getElem?_cons_zero, hx4, Res.bind_ok, Vl.d_val, ih]
        simp only [List.set_cons_succ, List.set_cons_zero, Vl.sl_val, Vl.sl_own]
        refine st_asg (v := .val (.int sl)) (by rw [hx2, hx3]; simp only [ev, evs, getv, po, pt, peek, peekT, List.getElem?_cons_succ, List.getElem?_cons_zero, Res.bind_ok, Vl.d_val, Vl.d_own, rw_1, i1, i2, i3, i4, bin_sub, bin_add, hsl]) ?_
        simp only [List.set_cons_succ, List.set_cons_zero, Vl.sl_val, Vl.sl_own]
        refine st_asg (v := .val (.int tot)) (by rw [hx2]; simp only [ev, evs, getv, po, pt, peek, peekT, List.getElem?_cons_succ, List.getElem?_cons_zero, Res.bind_ok, Vl.d_val, Vl.d_own, rw_0, rw_2, i1, bin_add, b2_min, b2_max, htot]) ?_
        simp only [List.set_cons_succ, List.set_cons_zero, Vl.sl_val, Vl.sl_own]
        exact h
      have tb : tv (S8 (kk + 2)) (.cmp .isin (.s 7) (.s 5)) [.pk (R.map .int), .val (.int count), x2, x3, x4, x5, .own (L.map prD), .val (.int k), .val (.int m), .val (rowD one), .val (.int sl), .val (.int tot)] = .ok b := by
        rw [hx5]
        simp only [tv, ev, evs, getv, po, pt, peek, peekT, List.getElem?_cons_succ, List.getElem?_cons_zero, Res.bind_ok, Vl.d_val, Vl.d_own, hb]
      refine ⟨_, rfl, ?_⟩
      cases b with
      | false =>
        refine ⟨_, pre _ _ (st_no tb (fin tot)), L ++ [(m, max (-1000000000) (min 1000000000 tot))], _, _, _, _, _, rfl, by rw [List.length_append, List.length_singleton, hL1], okN tot⟩
      | true =>
        have c35 := ev_call (c := S8 (kk + 2)) (env := [.pk (R.map .int), .val (.int count), x2, x3, x4, x5, .own (L.map prD), .val (.int k), .val (.int m), .val (rowD one), .val (.int sl), .val (.int tot)]) (es := [.p (.s 0), .e (.bin .add (.e (.bin .mul (.e (.int 5)) (.s 7))) (.e (.int 2)))]) (by simp only [args, arg, ev, evs, getv, po, pt, peek, peekT, List.getElem?_cons_succ, List.getElem?_cons_zero, Res.bind_ok, Vl.d_val, Vl.d_own, m5, bin_add]) g35
        refine ⟨_, pre _ _ (st_yes tb (st_asg (v := .val (.int (tot + mvv))) ?_ rfl) (fin (tot + mvv))), L ++ [(m, max (-1000000000) (min 1000000000 (tot + mvv)))], _, _, _, _, _, rfl, by rw [List.length_append, List.length_singleton, hL1], okN (tot + mvv)⟩
        rw [ev]
        simp only [pt, ↓c35, peekT, List.getElem?_cons_succ, List.getElem?_cons_zero, Res.bind_ok, Vl.d_val, bin_add]) (env := [.pk (R.map .int), .val (.int count), x2, x3, x4, x5, .own [], .no, .no, .no, .no, .no]) ⟨[], .no, .no, .no, .no, .no, rfl, rfl, fun s h => by cases h⟩
  rw [daysFrom_len] at hL1
  refine ⟨L, hL1, hL2, run_ret rfl rfl ?_⟩
  show exss (S8 (kk + 2)) f_law_slips.body [.pk (R.map .int), .val (.int count), .pk ((sums 0 lo).map .int), .pk ((sums 0 hi).map .int), .pk (H.map rowD), .pk (mv.map .int), .no, .no, .no, .no, .no, .no] = _
  rw [← hx2, ← hx3, ← hx4, ← hx5]
  unfold f_law_slips
  refine st_asg (v := .own []) rfl ?_
  simp only [List.set_cons_succ, List.set_cons_zero, Vl.sl_val, Vl.sl_own]
  refine st_for (itsF_r1 (n := count) (by simp only [ev, evs, getv, po, pt, peek, peekT, List.getElem?_cons_succ, List.getElem?_cons_zero, Res.bind_ok, Vl.d_val, Vl.d_own]) (inR_s (by omega) (by omega))) l ?_
  rw [J]
  exact st_reto rfl
/-! ### the law judges -/
def stepsOf (a b k : Int) : List Int := (List.range (rangeN a b k)).map fun (j : Nat) => a + (j : Int) * k
theorem rangeC_steps (a b k : Int) : rangeC a b k = (stepsOf a b k).map D.int := by
  unfold rangeC stepsOf
  rw [List.map_map]
  rfl
theorem steps_mem {a b k x : Int} (hk : 0 < k) (h : x ∈ stepsOf a b k) : a ≤ x ∧ x < b := by
  unfold stepsOf at h
  obtain ⟨j, hj, rfl⟩ := List.mem_map.mp h
  have hj := List.mem_range.mp hj
  unfold rangeN at hj
  by_cases c : a < b
  · rw [if_pos c] at hj
    have n0 := Int.ediv_nonneg (show 0 ≤ b - a - 1 by omega) (show 0 ≤ k by omega)
    have m1 := Int.mul_le_mul_of_nonneg_right (show (j : Int) ≤ (b - a - 1) / k by omega) (show 0 ≤ k by omega)
    have m2 := Int.ediv_mul_le (b - a - 1) (show k ≠ 0 by omega)
    have m3 := Int.mul_nonneg (show 0 ≤ (j : Int) by omega) (show 0 ≤ k by omega)
    omega
  · rw [if_neg c] at hj
    omega
theorem itsF_r3 {c : Ctx} {e f g : E} {env : Env} {a b k : Int} (h : ev c e env = .ok (.val (.int a))) (h' : ev c f env = .ok (.val (.int b))) (h'' : ev c g env = .ok (.val (.int k))) (h1 : inR a = true) (h2 : inR b = true) (h3 : 0 < k) (h4 : k < 1073741824) : itsF c (.r3 e f g) env = .ok ((stepsOf a b k).map D.int) := by
  simp only [itsF, its, h, h', h'', Res.bind_ok, asInt, h1, h2, Bool.true_and, decide_eq_true (show 0 < k ∧ k < 1073741824 from ⟨h3, h4⟩), if_true, rangeC_steps]
theorem lpix {L : List Sp} {i : Int} (h0 : 0 ≤ i) (h1 : i < L.length) : index (.lst (L.map prD)) (.int i) = .ok (prD (gS L i)) := pix h0 h1
theorem cmp_ne_bl (b : Bool) : cmp .ne (.bl b) (.bl b) = .ok false := cmp_self_ne (by simp [eqOk])
theorem oneM22 (k : Nat) {lo hi : List Int} (M : Lm lo hi) {s t : Sp} (hs : okS lo s) (ht : okS lo t) : (S8 (k + 3)).call 22 [limO lo hi, prD s, prD t] = .ok (.val (.bl (joinB lo hi s t))) := by
  rw [s8, call_22]
  exact oneM_ok k M hs ht
theorem lpairs_ok (k : Nat) {lo hi : List Int} (M : Lm lo hi) (L : List Sp) (hl : L.length ≤ 40) (h : ∀ s ∈ L, okS lo s) : runFn f_law_pairs (S8 (k + 3)) [limO lo hi, .lst ((sums 0 lo).map .int), .lst ((sums 0 hi).map .int), .lst (L.map prD)] = .ok (.val (.bl true)) := by
  obtain ⟨x1, hx1⟩ : ∃ x1, x1 = Sl.pk ((sums 0 lo).map D.int) := ⟨_, rfl⟩
  obtain ⟨x2, hx2⟩ : ∃ x2, x2 = Sl.pk ((sums 0 hi).map D.int) := ⟨_, rfl⟩
  obtain ⟨st, hst⟩ : ∃ st : Int, st = 1 + (L.length : Int).fdiv 10 := ⟨_, rfl⟩
  have st1 : 1 ≤ st ∧ st < 1000 := by
    rw [Int.fdiv_eq_ediv_of_nonneg _ (by omega)] at hst
    omega
  refine run_ret rfl rfl ?_
  show exss (S8 (k + 3)) f_law_pairs.body [.val (limO lo hi), .pk ((sums 0 lo).map .int), .pk ((sums 0 hi).map .int), .pk (L.map prD), .no, .no, .no, .no] = _
  have d10 := bin_div L.length 10 (div_ne (by omega))
  unfold f_law_pairs
  refine st_asg (v := .val (.int st)) (by simp only [ev, evs, getv, po, pt, peek, peekT, List.getElem?_cons_succ, List.getElem?_cons_zero, Res.bind_ok, Vl.d_val, Vl.d_own, b1, len, List.length_map, d10, bin_add, hst]) ?_
  simp only [List.set_cons_succ, List.set_cons_zero, Vl.sl_val, Vl.sl_own]
  rw [← hx1, ← hx2]
  obtain ⟨e2, l, x5, x6, x7, J⟩ := for_keep (tg := .n 5) (body := exss (S8 (k + 3)) [.forl [] (.n 6) (.r3 (.bin .mod (.s 5) (.s 4)) (.b1 .len (.s 3)) (.v 4)) [.asg [] 7 (.call 22 [.e (.v 0), .e (.ix (.s 3) (.s 5)), .e (.ix (.s 3) (.s 6))]), .ite [] (.or (.not (.v (.e (.isi (.s 7) .bool)))) (.cmp .ne (.s 7) (.e (.call 33 [.p (.s 1), .p (.s 2), .p (.e (.ix (.s 3) (.s 5))), .p (.e (.ix (.s 3) (.s 6)))])))) [.ret [] (.bl false)] []]]) D.int (fun env => ∃ x5 x6 x7, env = [.val (limO lo hi), x1, x2, .pk (L.map prD), .val (.int st), x5, x6, x7]) (daysFrom 0 L.length) [.val (limO lo hi), x1, x2, .pk (L.map prD), .val (.int st), .no, .no, .no] (fun i hi' env ⟨x5, x6, x7, he⟩ => by
    rw [he]
    have hd := daysFrom_mem hi'
    have mst := bin_mod i st (by omega)
    have fm := fmod_lt (a := i) (b := st) (by omega)
    refine ⟨[.val (limO lo hi), x1, x2, .pk (L.map prD), .val (.int st), .val (.int i), x6, x7], rfl, ?_⟩
    obtain ⟨e3, l3, y6, y7, J3⟩ := for_keep (tg := .n 6) (body := exss (S8 (k + 3)) [.asg [] 7 (.call 22 [.e (.v 0), .e (.ix (.s 3) (.s 5)), .e (.ix (.s 3) (.s 6))]), .ite [] (.or (.not (.v (.e (.isi (.s 7) .bool)))) (.cmp .ne (.s 7) (.e (.call 33 [.p (.s 1), .p (.s 2), .p (.e (.ix (.s 3) (.s 5))), .p (.e (.ix (.s 3) (.s 6)))])))) [.ret [] (.bl false)] []]) D.int (fun env => ∃ x6 x7, env = [.val (limO lo hi), x1, x2, .pk (L.map prD), .val (.int st), .val (.int i), x6, x7]) (stepsOf (i.fmod st) L.length st) [.val (limO lo hi), x1, x2, .pk (L.map prD), .val (.int st), .val (.int i), x6, x7] (fun j hj env ⟨x6, x7, he⟩ => by
      rw [he]
      have hdj := steps_mem (by omega) hj
      have i0 := lpix (L := L) hd.1 (by omega)
      have i1 := lpix (L := L) (show 0 ≤ j by omega) hdj.2
      have os := gS_ok h hd.1 (show i < L.length by omega)
      have ot := gS_ok h (show 0 ≤ j by omega) hdj.2
      obtain ⟨b, hb⟩ : ∃ b, b = joinB lo hi (gS L i) (gS L j) := ⟨_, rfl⟩
      have g22 := oneM22 k M os ot
      have g33 := joined33 (k + 2) M os ot
      rw [← hb] at g22 g33
      refine ⟨[.val (limO lo hi), x1, x2, .pk (L.map prD), .val (.int st), .val (.int i), .val (.int j), x7], rfl, [.val (limO lo hi), x1, x2, .pk (L.map prD), .val (.int st), .val (.int i), .val (.int j), .val (.bl b)], .inl ?_, _, _, rfl⟩
      have c33 := ev_call (c := S8 (k + 3)) (env := [.val (limO lo hi), x1, x2, .pk (L.map prD), .val (.int st), .val (.int i), .val (.int j), .val (.bl b)]) (es := [.p (.s 1), .p (.s 2), .p (.e (.ix (.s 3) (.s 5))), .p (.e (.ix (.s 3) (.s 6)))]) (ds := [.lst ((sums 0 lo).map .int), .lst ((sums 0 hi).map .int), prD (gS L i), prD (gS L j)]) (by rw [hx1, hx2]; simp only [args, arg, ev, evs, getv, po, pt, peek, peekT, List.getElem?_cons_succ, List.getElem?_cons_zero, Res.bind_ok, Vl.d_val, Vl.d_own, i0, i1]) g33
      refine st_asg (ev_call (ds := [limO lo hi, prD (gS L i), prD (gS L j)]) (by simp only [args, arg, ev, evs, getv, po, pt, peek, peekT, List.getElem?_cons_succ, List.getElem?_cons_zero, Res.bind_ok, Vl.d_val, Vl.d_own, i0, i1]) g22) ?_
      simp only [List.set_cons_succ, List.set_cons_zero, Vl.sl_val, Vl.sl_own]
      refine st_no (orF (ttF rfl) ?_) rfl
      simp only [tv, po, ↓c33, peek, List.getElem?_cons_succ, List.getElem?_cons_zero, Res.bind_ok, Vl.d_val, cmp_ne_bl]) ⟨_, _, rfl⟩
    rw [J3] at l3
    exact ⟨_, .inl (st_for (itsF_r3 (a := i.fmod st) (b := L.length) (k := st) (by simp only [ev, evs, getv, po, pt, peek, peekT, List.getElem?_cons_succ, List.getElem?_cons_zero, Res.bind_ok, Vl.d_val, Vl.d_own, mst]) (by simp only [ev, evs, getv, po, pt, peek, peekT, List.getElem?_cons_succ, List.getElem?_cons_zero, Res.bind_ok, Vl.d_val, Vl.d_own, b1, len, List.length_map]) (by simp only [ev, evs, getv, po, pt, peek, peekT, List.getElem?_cons_succ, List.getElem?_cons_zero, Res.bind_ok, Vl.d_val, Vl.d_own]) (inR_s (by omega) (by omega)) (inR_s (by omega) (by omega)) (by omega) (by omega)) l3 rfl), _, _, _, rfl⟩) ⟨_, _, _, rfl⟩
  refine st_for (itsF_r1 (n := L.length) (by simp only [ev, evs, getv, po, pt, peek, peekT, List.getElem?_cons_succ, List.getElem?_cons_zero, Res.bind_ok, Vl.d_val, Vl.d_own, b1, len, List.length_map]) (inR_s (by omega) (by omega))) l ?_
  rw [J]
  exact st_ret rfl
theorem ord_len (L : List Sp) : (ordOf L).length = L.length := by
  unfold ordOf
  rw [List.length_map, sortT_len]
theorem eo_ints (xs : List Int) : eqOk 60 (.lst (xs.map D.int)) = true := by
  simp only [eqOk]
  exact eqOks_map (fun x => by simp [eqOk]) xs
theorem lorder_ok (k : Nat) {lo hi : List Int} (L : List Sp) (hl : L.length ≤ 40) (h : ∀ s ∈ L, okS lo s) : runFn f_law_order (S8 (k + 2)) [limO lo hi, .lst (L.map prD)] = .ok (.val (.bl true)) := by
  have hS := SLe
  have g23 : (S8 (k + 2)).call 23 [limO lo hi, .lst (L.map prD)] = .ok (.own ((ordOf L).map .int)) := by rw [s8, call_23]; exact order_ok k L hl h
  refine run_ret rfl rfl ?_
  show exss (S8 (k + 2)) f_law_order.body [.val (limO lo hi), .pk (L.map prD), .no, .no, .no, .no, .no] = _
  have tc := trip_comp (S8 (k + 2)) L (by omega) 1 3 [.val (limO lo hi), .pk (L.map prD), .no, .no, .no, .no, .no] (fun v => rfl) rfl (fun v => rfl) (fun v => rfl)
  have c23 := fun r => ev_call (c := S8 (k + 2)) (env := .val (limO lo hi) :: .pk (L.map prD) :: r) (es := [.e (.v 0), .p (.s 1)]) (by simp only [args, arg, ev, evs, getv, po, pt, peek, peekT, List.getElem?_cons_succ, List.getElem?_cons_zero, Res.bind_ok, Vl.d_val, Vl.d_own]) g23
  obtain ⟨x2, hx2⟩ : ∃ x2, x2 = Sl.own ((sortT L).map rowD) := ⟨_, rfl⟩
  have ol := ord_len L
  unfold f_law_order
  refine st_asg (v := .own ((sortT L).map rowD)) ?_ ?_
  · rw [ev]
    simp only [po, ↓tc, Res.bind_ok, Vl.d_own, sort3_ok]
    rfl
  simp only [List.set_cons_succ, List.set_cons_zero, Vl.sl_val, Vl.sl_own]
  refine st_asg (v := .own ((ordOf L).map .int)) ?_ ?_
  · rw [ev_comp (ds := (sortT L).map rowD) (by simp only [its, ev, evs, getv, po, pt, peek, peekT, List.getElem?_cons_succ, List.getElem?_cons_zero, Res.bind_ok, Vl.d_val, Vl.d_own, walkOf]), comp_mp rowD (fun t => .int t.2.2) _ [] (fun t _ => ?_) (by rw [sortT_len, List.length_nil]; omega)]
    · unfold ordOf
      rw [List.map_map]
      rfl
    · simp only [turnD, wipeE, setT, List.set_cons_succ, List.set_cons_zero, tvs, ev, evs, getv, po, pt, peek, peekT, List.getElem?_cons_succ, List.getElem?_cons_zero, Res.bind_ok, Vl.d_val, Vl.d_own, rw_2, if_true]
  simp only [List.set_cons_succ, List.set_cons_zero, Vl.sl_val, Vl.sl_own]
  rw [← hx2]
  refine st_asg (c23 _) ?_
  simp only [List.set_cons_succ, List.set_cons_zero, Vl.sl_val, Vl.sl_own]
  refine st_no (orF (ttF rfl) ?_) ?_
  · simp only [tv, ev, evs, getv, po, pt, peek, peekT, List.getElem?_cons_succ, List.getElem?_cons_zero, Res.bind_ok, Vl.d_val, Vl.d_own, b1, len]
    exact cmp_self_ne (by simp [eqOk])
  obtain ⟨e2, l, x3, x5, J⟩ := for_keep (tg := .n 3) (body := exss (S8 (k + 2)) [.ite [] (.or (.not (.v (.e (.call 30 [.p (.e (.ix (.s 6) (.s 3)))])))) (.cmp .ne (.e (.ix (.s 6) (.s 3))) (.e (.ix (.s 4) (.s 3))))) [.ret [] (.bl false)] []]) D.int (fun env => ∃ x3 x5, env = [.val (limO lo hi), .pk (L.map prD), x2, x3, .own ((ordOf L).map .int), x5, .own ((ordOf L).map .int)]) (daysFrom 0 L.length) [.val (limO lo hi), .pk (L.map prD), x2, .no, .own ((ordOf L).map .int), .no, .own ((ordOf L).map .int)] (fun i hi' env ⟨x3, x5, he⟩ => by
    rw [he]
    have hd := daysFrom_mem hi'
    have i0 := index_ints (R := ordOf L) (i := i) hd.1 (by omega)
    refine ⟨[.val (limO lo hi), .pk (L.map prD), x2, .val (.int i), .own ((ordOf L).map .int), x5, .own ((ordOf L).map .int)], rfl, [.val (limO lo hi), .pk (L.map prD), x2, .val (.int i), .own ((ordOf L).map .int), x5, .own ((ordOf L).map .int)], .inl ?_, _, _, rfl⟩
    refine st_no (orF (ttF (ev_call (ds := [.int ((ordOf L).getD i.toNat 0)]) (by simp only [args, arg, ev, evs, getv, po, pt, peek, peekT, List.getElem?_cons_succ, List.getElem?_cons_zero, Res.bind_ok, Vl.d_val, Vl.d_own, i0]) (whole30 (k + 1) _))) ?_) rfl
    simp only [tv, ev, evs, getv, po, pt, peek, peekT, List.getElem?_cons_succ, List.getElem?_cons_zero, Res.bind_ok, Vl.d_val, Vl.d_own, i0]
    exact cmp_self_ne (by simp [eqOk])) ⟨_, _, rfl⟩
  refine st_for (itsF_r1 (n := L.length) (by simp only [ev, evs, getv, po, pt, peek, peekT, List.getElem?_cons_succ, List.getElem?_cons_zero, Res.bind_ok, Vl.d_val, Vl.d_own, b1, len, List.length_map, ol]) (inR_s (by omega) (by omega))) l ?_
  rw [J]
  refine st_app (ds := (ordOf L).map .int) (v := .val (.int (-1))) rfl (by rw [List.length_map]; omega) (by simp only [ev, evs, getv, po, pt, peek, peekT, List.getElem?_cons_succ, List.getElem?_cons_zero, Res.bind_ok, Vl.d_val, Vl.d_own, neg]) ?_
  simp only [List.set_cons_succ, List.set_cons_zero]
  refine st_ret ?_
  rw [ev]
  simp only [po, ↓c23, peek, List.getElem?_cons_succ, List.getElem?_cons_zero, Res.bind_ok, Vl.d_own, cmp_self (eo_ints _), ofB]
theorem lapart_ok (k : Nat) {lo hi : List Int} (M : Lm lo hi) (L : List Sp) (hl : L.length ≤ 40) (h : ∀ s ∈ L, okS lo s) : runFn f_law_apart (S8 (k + 1)) [.lst ((sums 0 lo).map .int), .lst ((sums 0 hi).map .int), .lst (L.map prD)] = .ok (.val (pairD' (fa lo hi L))) := by
  obtain ⟨x1, hx1⟩ : ∃ x1, x1 = Sl.pk ((sums 0 lo).map D.int) := ⟨_, rfl⟩
  obtain ⟨x2, hx2⟩ : ∃ x2, x2 = Sl.pk ((sums 0 hi).map D.int) := ⟨_, rfl⟩
  refine run_ret rfl rfl ?_
  show exss (S8 (k + 1)) f_law_apart.body [.pk ((sums 0 lo).map .int), .pk ((sums 0 hi).map .int), .pk (L.map prD), .no, .no] = _
  rw [← hx1, ← hx2]
  have r := dbl (c := S8 (k + 1)) (a := 3) (b := 4) (T := .not (.v (.e (.call 33 [.p (.s 0), .p (.s 1), .p (.e (.ix (.s 2) (.s 3))), .p (.e (.ix (.s 2) (.s 4)))])))) (lim := .b1 .len (.s 2)) (n := L.length) (by omega) (qJ lo hi L) (fun x y => [x1, x2, .pk (L.map prD), x, y]) (fun d x y => rfl) (fun d x y => rfl) (fun i j h0 h1 h2 => by
    have i0 := lpix (L := L) h0 (show i < L.length by omega)
    have i1 := lpix (L := L) (show 0 ≤ j by omega) h2
    have g33 := joined33 k M (gS_ok h h0 (show i < L.length by omega)) (gS_ok h (show 0 ≤ j by omega) h2)
    exact tt (ev_call (ds := [.lst ((sums 0 lo).map .int), .lst ((sums 0 hi).map .int), prD (gS L i), prD (gS L j)]) (by rw [hx1, hx2]; simp only [args, arg, ev, evs, getv, po, pt, peek, peekT, List.getElem?_cons_succ, List.getElem?_cons_zero, Res.bind_ok, Vl.d_val, Vl.d_own, i0, i1]) g33)) (fun d y => rfl) (fun d x => rfl) (fun d y => rfl) (fun x y => by simp only [ev, evs, getv, po, pt, peek, peekT, List.getElem?_cons_succ, List.getElem?_cons_zero, Res.bind_ok, Vl.d_val, Vl.d_own, b1, len, List.length_map]) .no .no
  have it : itsF (S8 (k + 1)) (.r1 (.b1 .len (.s 2))) [x1, x2, .pk (L.map prD), .no, .no] = .ok ((daysFrom 0 L.length).map D.int) := itsF_r1 (n := L.length) (by simp only [ev, evs, getv, po, pt, peek, peekT, List.getElem?_cons_succ, List.getElem?_cons_zero, Res.bind_ok, Vl.d_val, Vl.d_own, b1, len, List.length_map]) (inR_s (by omega) (by omega))
  unfold f_law_apart
  rcases r with ⟨p, hp, l⟩ | ⟨hp, x, y, l⟩
  · have : fa lo hi L = some p := hp
    rw [this]
    exact st_forR it l
  · have : fa lo hi L = none := hp
    rw [this]
    exact st_for it l (st_ret rfl)
def thD (lo hi : List Int) (L : List Sp) : D := if L = [] then .tup [.str "empty", .non] else match fa lo hi L with
  | some p => .tup [.str "clash", prD p]
  | none => .tup [.str "history", .lst ((lowH lo hi L).map .int)]
theorem through_ok (k : Nat) {lo hi : List Int} (M : Lm lo hi) (L : List Sp) (hl : L.length ≤ 40) (h : ∀ s ∈ L, okS lo s) : runFn f_law_through (S8 (k + 5)) [limO lo hi, .lst (L.map prD)] = .ok (.val (thD lo hi L)) := by
  obtain ⟨h1, h2, h3⟩ := hist_ok k M L hl h
  refine run_ret rfl rfl ?_
  show exss (S8 (k + 5)) f_law_through.body [.val (limO lo hi), .pk (L.map prD), .no] = _
  have a2 : args (S8 (k + 5)) [.e (.v 0), .p (.s 1)] [.val (limO lo hi), .pk (L.map prD), .no] = .ok [limO lo hi, .lst (L.map prD)] := by simp only [args, arg, ev, evs, getv, po, pt, peek, peekT, List.getElem?_cons_succ, List.getElem?_cons_zero, Res.bind_ok, Vl.d_val, Vl.d_own]
  have go : ∀ (kk : Nat) (fs : List D), (S8 (k + 5)).call 24 [limO lo hi, .lst (L.map prD)] = .err kk fs → exss (S8 (k + 5)) [.ret [] (.tup [.str "history", .call 24 [.e (.v 0), .p (.s 1)]])] [.val (limO lo hi), .pk (L.map prD), .no] = .err kk fs [.val (limO lo hi), .pk (L.map prD), .no] := fun kk fs g => by
    have c24 := ev_call a2 g
    have e1 : ev (S8 (k + 5)) (.tup [.str "history", .call 24 [.e (.v 0), .p (.s 1)]]) [.val (limO lo hi), .pk (L.map prD), .no] = .err kk fs := by
      rw [ev]
      simp only [evs, ↓c24, ev, Res.bind_ok, Res.bind_err]
    simp only [exss, exs, frz, List.foldl_nil, e1, Res.to_err, Out.seq_err]
  unfold f_law_through thD
  by_cases hL : L = []
  · rw [if_pos hL]
    obtain ⟨fs, z⟩ := h1 hL
    have g : (S8 (k + 5)).call 24 [limO lo hi, .lst (L.map prD)] = .err 5 fs := by rw [s8, call_24]; exact z
    exact st_tryE (go _ _ g) rfl
  · rw [if_neg hL]
    cases hf : fa lo hi L with
    | some p =>
      have g : (S8 (k + 5)).call 24 [limO lo hi, .lst (L.map prD)] = .err 6 [.int p.1, .int p.2] := by rw [s8, call_24]; exact h2 p hL hf
      exact st_tryE (go _ _ g) rfl
    | none =>
      have g : (S8 (k + 5)).call 24 [limO lo hi, .lst (L.map prD)] = .ok (.own ((lowH lo hi L).map .int)) := by rw [s8, call_24]; exact h3 hL hf
      have c24 := ev_call a2 g
      refine st_tryR (st_ret ?_)
      rw [ev]
      simp only [evs, ↓c24, ev, Res.bind_ok, Vl.d_own, Vl.d_val, List.length_cons, List.length_nil]
      rfl
/-! ### histories, the law -/
theorem eo_hist (xs : List Int) : eqOk 60 (.tup [.str "history", .lst (xs.map D.int)]) = true := by
  have h : eqOks 58 (xs.map D.int) = true := eqOks_map (fun x => by simp [eqOk]) xs
  have h2 : PySem.PyData.strOk ("history" : Str) = true := by decide +kernel
  simp only [eqOk, eqOks, h, h2, Bool.and_self]
theorem eo_pair (o : Option Sp) : eqOk 60 (pairD' o) = true := by
  cases o with
  | none => rfl
  | some p => exact pr_ok 59 p
theorem eo_th (lo hi : List Int) (L : List Sp) : eqOk 60 (thD lo hi L) = true := by
  have h1 : PySem.PyData.strOk ("empty" : Str) = true := by decide +kernel
  have h2 : PySem.PyData.strOk ("clash" : Str) = true := by decide +kernel
  unfold thD
  by_cases hL : L = []
  · rw [if_pos hL]
    simp only [eqOk, eqOks, h1, Bool.and_self]
  · rw [if_neg hL]
    cases fa lo hi L with
    | some p =>
      have := pr_ok 58 p
      simp only [eqOk, eqOks, h2, this, Bool.and_self]
    | none => exact eo_hist _
theorem lowH_len (lo hi : List Int) (L : List Sp) : (lowH lo hi L).length = lo.length + 1 := by
  unfold lowH
  rw [List.length_map, daysFrom_len]
theorem lowH_get (lo hi : List Int) (L : List Sp) {m : Int} (h0 : 0 ≤ m) (h1 : m ≤ lo.length) : (lowH lo hi L).getD m.toNat 0 = mx (lowL lo hi L m) := by
  unfold lowH
  rw [List.getD_eq_getElem?_getD, List.getElem?_map, daysFrom_get 0 (lo.length + 1) m.toNat (by omega)]
  simp only [Option.map_some, Option.getD_some]
  rw [show (0 : Int) + (m.toNat : Int) = m by omega]
theorem lhist_ok (k : Nat) {lo hi : List Int} (M : Lm lo hi) (L : List Sp) (hl : L.length ≤ 40) (h : ∀ s ∈ L, okS lo s) : runFn f_law_history (S8 (k + 6)) [limO lo hi, .lst ((sums 0 lo).map .int), .lst ((sums 0 hi).map .int), .lst (L.map prD)] = .ok (.val (.bl true)) := by
  have hS := SLe
  have hml := M.len
  have htop := M.top
  obtain ⟨x1, hx1⟩ : ∃ x1, x1 = Sl.pk ((sums 0 lo).map D.int) := ⟨_, rfl⟩
  obtain ⟨x2, hx2⟩ : ∃ x2, x2 = Sl.pk ((sums 0 hi).map D.int) := ⟨_, rfl⟩
  have g39 : (S8 (k + 6)).call 39 [.lst ((sums 0 lo).map .int), .lst ((sums 0 hi).map .int), .lst (L.map prD)] = .ok (.val (pairD' (fa lo hi L))) := by rw [s8, call_39]; exact lapart_ok (k + 4) M L hl h
  have g40 : (S8 (k + 6)).call 40 [limO lo hi, .lst (L.map prD)] = .ok (.val (thD lo hi L)) := by rw [s8, call_40]; exact through_ok k M L hl h
  have g17 : (S8 (k + 6)).call 17 [limO lo hi, .lst ((L.map nt).map rowD)] = .ok (.val (pairD' (fa lo hi L))) := by rw [s8, call_17]; exact first_ok (k + 2) M L hl h
  refine run_ret rfl rfl ?_
  show exss (S8 (k + 6)) f_law_history.body [.val (limO lo hi), .pk ((sums 0 lo).map .int), .pk ((sums 0 hi).map .int), .pk (L.map prD), .no, .no, .no, .no, .no, .no] = _
  rw [← hx1, ← hx2]
  unfold f_law_history
  refine st_asg (ev_call (ds := [.lst ((sums 0 lo).map .int), .lst ((sums 0 hi).map .int), .lst (L.map prD)]) (by rw [hx1, hx2]; simp only [args, arg, ev, evs, getv, po, pt, peek, peekT, List.getElem?_cons_succ, List.getElem?_cons_zero, Res.bind_ok, Vl.d_val, Vl.d_own]) g39) ?_
  simp only [List.set_cons_succ, List.set_cons_zero, Vl.sl_val, Vl.sl_own]
  have cp : ev (S8 (k + 6)) (.comp (.n 6) (.sq (.s 3)) [] (.tup [.ix (.s 6) (.e (.int 0)), .ix (.s 6) (.e (.int 1)), .ix (.s 6) (.e (.int 1))]) [6]) [.val (limO lo hi), x1, x2, .pk (L.map prD), .val (pairD' (fa lo hi L)), .no, .no, .no, .no, .no] = .ok (.own ((L.map nt).map rowD)) := by
    rw [ev_comp (ds := L.map prD) (by simp only [its, ev, evs, getv, po, pt, peek, peekT, List.getElem?_cons_succ, List.getElem?_cons_zero, Res.bind_ok, Vl.d_val, Vl.d_own, walkOf])]
    rw [comp_mp prD (fun s => rowD (nt s)) _ [] (fun s hs => ?_) (by simp only [List.length_nil]; omega)]
    · rw [List.map_map]
      rfl
    · have t3 := tup3 (c := S8 (k + 6)) (a := .ix (.s 6) (.e (.int 0))) (b := .ix (.s 6) (.e (.int 1))) (d := .ix (.s 6) (.e (.int 1))) (env := [.val (limO lo hi), x1, x2, .pk (L.map prD), .val (pairD' (fa lo hi L)), .no, .val (prD s), .no, .no, .no]) (x := s.1) (y := s.2) (z := s.2) (by simp only [ev, evs, getv, po, pt, peek, peekT, List.getElem?_cons_succ, List.getElem?_cons_zero, Res.bind_ok, Vl.d_val, Vl.d_own, pr_0]) (by simp only [ev, evs, getv, po, pt, peek, peekT, List.getElem?_cons_succ, List.getElem?_cons_zero, Res.bind_ok, Vl.d_val, Vl.d_own, pr_1]) (by simp only [ev, evs, getv, po, pt, peek, peekT, List.getElem?_cons_succ, List.getElem?_cons_zero, Res.bind_ok, Vl.d_val, Vl.d_own, pr_1])
      simp only [turnD, wipeE, setT, List.set_cons_succ, List.set_cons_zero, tvs, Res.bind_ok, if_true, ↓t3, Vl.d_val]
      rfl
  refine st_asg cp ?_
  simp only [List.set_cons_succ, List.set_cons_zero, Vl.sl_val, Vl.sl_own]
  refine st_asg (ev_call (ds := [limO lo hi, .lst (L.map prD)]) (by simp only [args, arg, ev, evs, getv, po, pt, peek, peekT, List.getElem?_cons_succ, List.getElem?_cons_zero, Res.bind_ok, Vl.d_val, Vl.d_own]) g40) ?_
  simp only [List.set_cons_succ, List.set_cons_zero, Vl.sl_val, Vl.sl_own]
  have c17 := ev_call (c := S8 (k + 6)) (env := [.val (limO lo hi), x1, x2, .pk (L.map prD), .val (pairD' (fa lo hi L)), .own ((L.map nt).map rowD), .no, .val (thD lo hi L), .no, .no]) (es := [.e (.v 0), .p (.e (.b1 .lst (.s 5)))]) (ds := [limO lo hi, .lst ((L.map nt).map rowD)]) (by simp only [args, arg, ev, evs, getv, po, pt, peek, peekT, List.getElem?_cons_succ, List.getElem?_cons_zero, Res.bind_ok, Vl.d_val, Vl.d_own, b1, seqOf]) g17
  refine st_no ?_ ?_
  · rw [tv]
    simp only [po, ↓c17, peek, List.getElem?_cons_succ, List.getElem?_cons_zero, Res.bind_ok, Vl.d_val]
    exact cmp_self_ne (eo_pair _)
  have t1 : tv (S8 (k + 6)) (.not (.v (.s 3))) [.val (limO lo hi), x1, x2, .pk (L.map prD), .val (pairD' (fa lo hi L)), .own ((L.map nt).map rowD), .no, .val (thD lo hi L), .no, .no] = .ok (L.map prD).isEmpty := by
    simp only [tv, ev, evs, getv, po, pt, peek, peekT, List.getElem?_cons_succ, List.getElem?_cons_zero, Res.bind_ok, Vl.d_val, Vl.d_own, truth, Bool.not_not]
  by_cases hL : L = []
  · have e : thD lo hi L = .tup [.str "empty", .non] := by unfold thD; rw [if_pos hL]
    refine st_yesR (t1.trans (by rw [hL]; rfl)) (st_ret ?_)
    have et : ∀ env, ev (S8 (k + 6)) (.tup [.str "empty", .non]) env = .ok (.val (.tup [.str "empty", .non])) := fun env => rfl
    rw [ev]
    simp only [po, ↓et, peek, List.getElem?_cons_succ, List.getElem?_cons_zero, Res.bind_ok, Vl.d_val]
    rw [← e, cmp_self (eo_th lo hi L)]
    rfl
  · refine st_no (t1.trans (by rw [isE1 hL])) ?_
    cases hf : fa lo hi L with
    | some p =>
      have e : thD lo hi L = .tup [.str "clash", prD p] := by unfold thD; rw [if_neg hL, hf]
      refine st_yesR rfl (st_ret ?_)
      have et : ∀ x0 x1 x2 x3 r, ev (S8 (k + 6)) (.tup [.str "clash", .v 4]) (x0 :: x1 :: x2 :: x3 :: .val (pairD' (some p)) :: r) = .ok (.val (.tup [.str "clash", prD p])) := fun x0 x1 x2 x3 r => rfl
      rw [ev]
      simp only [po, ↓et, peek, List.getElem?_cons_succ, List.getElem?_cons_zero, Res.bind_ok, Vl.d_val]
      rw [← e, cmp_self (eo_th lo hi L)]
      rfl
    | none =>
      have e : thD lo hi L = .tup [.str "history", .lst ((lowH lo hi L).map .int)] := by unfold thD; rw [if_neg hL, hf]
      have g26 : (S8 (k + 6)).call 26 [limO lo hi, .lst ((L.map nt).map rowD)] = .ok (.own ((lowH lo hi L).map .int)) := by rw [s8, call_26]; exact lowest_ok k M L hl h hL hf
      rw [e]
      have ll := lowH_len lo hi L
      have p1 : ∀ r x8 x9 x6, ev (S8 (k + 6)) (.ix (.s 7) (.e (.int 1))) [.val (limO lo hi), x1, x2, .pk (L.map prD), r, .own ((L.map nt).map rowD), x6, .val (.tup [.str "history", .lst ((lowH lo hi L).map .int)]), x8, x9] = .ok (.val (.lst ((lowH lo hi L).map .int))) := fun r x8 x9 x6 => rfl
      refine st_no rfl (st_no (orF ?_ (orF ?_ ?_)) ?_)
      · have p0 : ev (S8 (k + 6)) (.ix (.s 7) (.e (.int 0))) [.val (limO lo hi), x1, x2, .pk (L.map prD), .val (pairD' none), .own ((L.map nt).map rowD), .no, .val (.tup [.str "history", .lst ((lowH lo hi L).map .int)]), .no, .no] = .ok (.val (.str "history")) := rfl
        have h2 : PySem.PyData.strOk ("history" : Str) = true := by decide +kernel
        simp only [tv, po, ↓p0, Res.bind_ok, Vl.d_val, ev]
        exact cmp_self_ne (by simp only [eqOk, h2])
      · refine ttF ?_
        rw [ev]
        simp only [po, ↓p1, Res.bind_ok, Vl.d_val, isTy, ofB]
      · rw [tv]
        simp only [po]
        rw [ev]
        simp only [po, ↓p1, Res.bind_ok, Vl.d_val, b1, len, List.length_map, ll]
        rw [hx1]
        simp only [ev, evs, getv, po, pt, peek, peekT, List.getElem?_cons_succ, List.getElem?_cons_zero, Res.bind_ok, Vl.d_val, Vl.d_own, b1, len, List.length_map, sums_len']
        exact cmp_self_ne (by simp [eqOk])
      obtain ⟨e2, l, x6, x8, x9, J⟩ := for_keep (tg := .n 8) (body := exss (S8 (k + 6)) [.asg [] 9 (.b1 .max (.e (.comp (.n 6) (.sq (.s 3)) [] (.bin .add (.e (.ix (.s 6) (.e (.int 1)))) (.e (.b2 .min (.e (.bin .sub (.e (.ix (.s 1) (.s 8))) (.e (.ix (.s 1) (.e (.ix (.s 6) (.e (.int 0)))))))) (.e (.bin .sub (.e (.ix (.s 2) (.s 8))) (.e (.ix (.s 2) (.e (.ix (.s 6) (.e (.int 0))))))))))) [6]))), .ite [] (.or (.not (.v (.e (.call 30 [.p (.e (.ix (.e (.ix (.s 7) (.e (.int 1)))) (.s 8)))])))) (.cmp .ne (.e (.ix (.e (.ix (.s 7) (.e (.int 1)))) (.s 8))) (.s 9))) [.ret [] (.bl false)] []]) D.int (fun env => ∃ x6 x8 x9, env = [.val (limO lo hi), x1, x2, .pk (L.map prD), .val (pairD' none), .own ((L.map nt).map rowD), x6, .val (.tup [.str "history", .lst ((lowH lo hi L).map .int)]), x8, x9]) (daysFrom 0 (lo.length + 1)) [.val (limO lo hi), x1, x2, .pk (L.map prD), .val (pairD' none), .own ((L.map nt).map rowD), .no, .val (.tup [.str "history", .lst ((lowH lo hi L).map .int)]), .no, .no] (fun m hm env ⟨x6, x8, x9, he⟩ => by
        rw [he]
        have hd := daysFrom_mem hm
        refine ⟨[.val (limO lo hi), x1, x2, .pk (L.map prD), .val (pairD' none), .own ((L.map nt).map rowD), x6, .val (.tup [.str "history", .lst ((lowH lo hi L).map .int)]), .val (.int m), x9], rfl, [.val (limO lo hi), x1, x2, .pk (L.map prD), .val (pairD' none), .own ((L.map nt).map rowD), x6, .val (.tup [.str "history", .lst ((lowH lo hi L).map .int)]), .val (.int m), .val (.int (mx (lowL lo hi L m)))], .inl ?_, _, _, _, rfl⟩
        have c1 := six (xs := lo) (i := m) hd.1 (by omega)
        have c2 := six (xs := hi) (i := m) hd.1 (by omega)
        have cq : ev (S8 (k + 6)) (.comp (.n 6) (.sq (.s 3)) [] (.bin .add (.e (.ix (.s 6) (.e (.int 1)))) (.e (.b2 .min (.e (.bin .sub (.e (.ix (.s 1) (.s 8))) (.e (.ix (.s 1) (.e (.ix (.s 6) (.e (.int 0)))))))) (.e (.bin .sub (.e (.ix (.s 2) (.s 8))) (.e (.ix (.s 2) (.e (.ix (.s 6) (.e (.int 0))))))))))) [6]) [.val (limO lo hi), x1, x2, .pk (L.map prD), .val (pairD' none), .own ((L.map nt).map rowD), x6, .val (.tup [.str "history", .lst ((lowH lo hi L).map .int)]), .val (.int m), x9] = .ok (.own ((lowL lo hi L m).map D.int)) := by
          rw [ev_comp (ds := L.map prD) (by simp only [its, ev, evs, getv, po, pt, peek, peekT, List.getElem?_cons_succ, List.getElem?_cons_zero, Res.bind_ok, Vl.d_val, Vl.d_own, walkOf])]
          rw [comp_mp prD (fun s => .int (s.2 + (rch lo hi s.1 m).1)) _ [] (fun s hs => ?_) (by simp only [List.length_nil]; omega)]
          · unfold lowL
            rw [List.map_map]
            rfl
          · have os := h s hs
            have d1 := six (xs := lo) (i := s.1) os.1.1 os.1.2
            have d2 := six (xs := hi) (i := s.1) os.1.1 (by have := os.1.2; omega)
            simp only [turnD, wipeE, setT, List.set_cons_succ, List.set_cons_zero, tvs, Res.bind_ok, if_true]
            rw [hx1, hx2]
            simp only [ev, evs, getv, po, pt, peek, peekT, List.getElem?_cons_succ, List.getElem?_cons_zero, Res.bind_ok, Vl.d_val, Vl.d_own, pr_0, pr_1, c1, c2, d1, d2, bin_sub, b2_min, bin_add]
            rfl
        have hx : lowL lo hi L m ≠ [] := by
          unfold lowL
          intro z
          exact hL (List.map_eq_nil_iff.mp z)
        refine st_asg (v := .val (.int (mx (lowL lo hi L m)))) ?_ ?_
        · rw [ev]
          simp only [po, ↓cq, Res.bind_ok, Vl.d_own, b1_max' hx]
        simp only [List.set_cons_succ, List.set_cons_zero, Vl.sl_val, Vl.sl_own]
        have i0 := index_ints (R := lowH lo hi L) (i := m) hd.1 (by omega)
        rw [lowH_get lo hi L hd.1 (by omega)] at i0
        have e3 : ∀ x6 x9, ev (S8 (k + 6)) (.ix (.e (.ix (.s 7) (.e (.int 1)))) (.s 8)) [.val (limO lo hi), x1, x2, .pk (L.map prD), .val (pairD' none), .own ((L.map nt).map rowD), x6, .val (.tup [.str "history", .lst ((lowH lo hi L).map .int)]), .val (.int m), x9] = .ok (.val (.int (mx (lowL lo hi L m)))) := fun x6 x9 => by
          rw [ev]
          simp only [po, ↓p1, peek, List.getElem?_cons_succ, List.getElem?_cons_zero, Res.bind_ok, Vl.d_val, i0]
        refine st_no (orF (ttF (ev_call (ds := [.int (mx (lowL lo hi L m))]) (by simp only [args, arg, po, ↓e3, Res.bind_ok, Vl.d_val]) (whole30 (k + 5) _))) ?_) rfl
        simp only [tv, po, ↓e3, peek, List.getElem?_cons_succ, List.getElem?_cons_zero, Res.bind_ok, Vl.d_val]
        exact cmp_self_ne (by simp [eqOk])) ⟨_, _, _, rfl⟩
      refine st_for (itsF_r1 (n := lo.length + 1) (by rw [hx1]; simp only [ev, evs, getv, po, pt, peek, peekT, List.getElem?_cons_succ, List.getElem?_cons_zero, Res.bind_ok, Vl.d_val, Vl.d_own, b1, len, List.length_map, sums_len']; rfl) (inR_s (by omega) (by omega))) (by rw [show ((lo.length : Int) + 1).toNat = lo.length + 1 by omega]; exact l) ?_
      rw [J]
      have c26 := ev_call (c := S8 (k + 6)) (env := [.val (limO lo hi), x1, x2, .pk (L.map prD), .val (pairD' none), .own ((L.map nt).map rowD), x6, .val (.tup [.str "history", .lst ((lowH lo hi L).map .int)]), x8, x9]) (es := [.e (.v 0), .p (.s 5)]) (by simp only [args, arg, ev, evs, getv, po, pt, peek, peekT, List.getElem?_cons_succ, List.getElem?_cons_zero, Res.bind_ok, Vl.d_val, Vl.d_own]) g26
      refine st_ret ?_
      rw [ev]
      simp only [po, ↓p1, ↓c26, Res.bind_ok, Vl.d_val, Vl.d_own, cmp_self (eo_ints _), ofB]
/-- limits that let nothing be used -/
theorem zero_sum {xs : List Int} (h : ∀ x ∈ xs, x = 0) (k : Int) : sumAt xs k = 0 := by
  have tk : ∀ (ys : List Int), (∀ y ∈ ys, y = 0) → ∀ z n, (sums z ys).getD n 0 = if n ≤ ys.length then z else 0 := by
    intro ys
    induction ys with
    | nil => intro _ z n; cases n <;> simp [sums]
    | cons y ys ih =>
      intro hy z n
      cases n with
      | zero => simp [sums]
      | succ n =>
        have y0 := hy y List.mem_cons_self
        have := ih (fun w hw => hy w (List.mem_cons_of_mem _ hw)) (z + y) n
        rw [sums, List.getD_cons_succ, this, y0]
        simp
  unfold sumAt
  rw [tk xs h]
  split <;> rfl
theorem made_lm {days : Int} {rs : List Rw} (h : mkErr days rs = none) : Lm (ptsOf true days rs) (ptsOf false days rs) := by
  have f := mk_facts h
  refine ⟨by rw [ptsOf_len, ptsOf_len], by rw [ptsOf_len]; omega, by rw [ptsOf_len]; omega, fun p hp => ?_⟩
  exact (pts_use h p hp).2.1
theorem other_ok (k : Nat) (days : Int) (hd1 : 1 ≤ days) (hd2 : days ≤ 400) {lo : List Int} (hlo : lo.length = days.toNat) (L : List Sp) (hl : L.length ≤ 40) (h : ∀ s ∈ L, okS lo s) : runFn f_law_other (S8 (k + 4)) [.int days, .lst (L.map prD)] = .ok (.val (.bl true)) := by
  have hmk : mkErr days [(0, 0, 0)] = none := by
    unfold mkErr chkAll
    rw [if_pos ⟨hd1, hd2⟩, if_neg (by simp)]
    unfold chk
    rw [if_pos, if_pos]
    · rfl
    · unfold okUse
      simp
    · unfold okRow
      simp only
      omega
  have M := made_lm hmk
  obtain ⟨zl, hzl⟩ : ∃ zl, zl = ptsOf true days [(0, 0, 0)] := ⟨_, rfl⟩
  obtain ⟨zh, hzh⟩ : ∃ zh, zh = ptsOf false days [(0, 0, 0)] := ⟨_, rfl⟩
  have z0 : ∀ b, ∀ x ∈ ptsOf b days [(0, 0, 0)], x = 0 := fun b x hx => by
    unfold ptsOf at hx
    obtain ⟨d, hd, rfl⟩ := List.mem_map.mp hx
    obtain ⟨y, _, ey, hy⟩ := begun_ne hmk (daysFrom_mem hd).1
    rw [List.mem_singleton] at hy
    rw [ey, hy]
    cases b <;> rfl
  have zj : ∀ s t : Sp, joinB zl zh s t = (s.2 == t.2) := fun s t => by
    unfold joinB rch dA
    rw [hzl, hzh, zero_sum (z0 true), zero_sum (z0 true), zero_sum (z0 false), zero_sum (z0 false)]
    rw [Bool.eq_iff_iff, Bool.and_eq_true, decide_eq_true_eq, decide_eq_true_eq, beq_iff_eq]
    simp only
    omega
  have zlen : zl.length = lo.length := by rw [hzl, ptsOf_len, hlo]
  have h' : ∀ s ∈ L, okS zl s := fun s hs => by
    have := h s hs
    unfold okS at this ⊢
    rw [zlen]
    exact this
  have g4 : (S8 (k + 4)).call 4 [.int days, .lst [rowD (0, 0, 0)]] = .ok (.val (limO zl zh)) := by
    rw [s8, call_4]
    rcases made_ok (k + 2) days [(0, 0, 0)] with ⟨_, q⟩ | ⟨e, fs, q, _⟩
    · rw [hzl, hzh]
      exact q
    · rw [hmk] at q
      cases q
  refine run_ret rfl rfl ?_
  show exss (S8 (k + 4)) f_law_other.body [.val (.int days), .pk (L.map prD), .no, .no, .no] = _
  have el : ev (S8 (k + 4)) (.lst [.tup [.int 0, .int 0, .int 0]]) [.val (.int days), .pk (L.map prD), .no, .no, .no] = .ok (.own [rowD (0, 0, 0)]) := rfl
  unfold f_law_other
  refine st_asg (ev_mk (ds := [.int days, .lst [rowD (0, 0, 0)]]) (by simp only [args, arg, po, ↓el, ev, getv, List.getElem?_cons_zero, Res.bind_ok, Vl.d_val, Vl.d_own]) g4) ?_
  simp only [List.set_cons_succ, List.set_cons_zero, Vl.sl_val, Vl.sl_own]
  rw [← hzl, ← hzh] at M
  obtain ⟨e2, l, x3, x4, J⟩ := for_keep (tg := .n 3) (body := exss (S8 (k + 4)) [.asg [] 4 (.call 22 [.e (.v 2), .e (.ix (.s 1) (.e (.int 0))), .e (.ix (.s 1) (.s 3))]), .ite [] (.or (.not (.v (.e (.isi (.s 4) .bool)))) (.cmp .ne (.s 4) (.e (.cmp .eq (.e (.ix (.e (.ix (.s 1) (.e (.int 0)))) (.e (.int 1)))) (.e (.ix (.e (.ix (.s 1) (.s 3))) (.e (.int 1)))))))) [.ret [] (.bl false)] []]) D.int (fun env => ∃ x3 x4, env = [.val (.int days), .pk (L.map prD), .val (limO zl zh), x3, x4]) (daysFrom 0 (min 4 L.length)) [.val (.int days), .pk (L.map prD), .val (limO zl zh), .no, .no] (fun i hi' env ⟨x3, x4, he⟩ => by
    rw [he]
    have hd := daysFrom_mem hi'
    have i0 := lpix (L := L) (Int.le_refl 0) (by omega)
    have i1 := lpix (L := L) hd.1 (show i < L.length by omega)
    have g22 := oneM22 (k + 1) M (gS_ok h' (Int.le_refl 0) (by omega)) (gS_ok h' hd.1 (show i < L.length by omega))
    rw [zj] at g22
    refine ⟨[.val (.int days), .pk (L.map prD), .val (limO zl zh), .val (.int i), x4], rfl, [.val (.int days), .pk (L.map prD), .val (limO zl zh), .val (.int i), .val (.bl ((gS L 0).2 == (gS L i).2))], .inl ?_, _, _, rfl⟩
    refine st_asg (ev_call (ds := [limO zl zh, prD (gS L 0), prD (gS L i)]) (by simp only [args, arg, ev, evs, getv, po, pt, peek, peekT, List.getElem?_cons_succ, List.getElem?_cons_zero, Res.bind_ok, Vl.d_val, Vl.d_own, i0, i1]) g22) ?_
    simp only [List.set_cons_succ, List.set_cons_zero, Vl.sl_val, Vl.sl_own]
    refine st_no (orF (ttF rfl) ?_) rfl
    simp only [tv, ev, evs, getv, po, pt, peek, peekT, List.getElem?_cons_succ, List.getElem?_cons_zero, Res.bind_ok, Vl.d_val, Vl.d_own, i0, i1, pr_1, cmp_eq, ofB, cmp_ne_bl]) ⟨_, _, rfl⟩
  refine st_for (itsF_r1 (n := ((min 4 L.length : Nat) : Int)) (by simp only [ev, evs, getv, po, pt, peek, peekT, List.getElem?_cons_succ, List.getElem?_cons_zero, Res.bind_ok, Vl.d_val, Vl.d_own, b1, len, List.length_map, b2_min]; rw [show min (4 : Int) L.length = ((min 4 L.length : Nat) : Int) by omega]) (inR_s (by omega) (by omega))) (by rw [Int.toNat_natCast]; exact l) ?_
  rw [J]
  exact st_ret rfl
/-! ### the law -/
def tailB : List PL.S := [.asg [] 12 (.call 36 [.p (.s 2), .e (.v 4), .p (.s 6), .p (.s 7), .p (.s 9), .p (.s 10)]), .asg [] 13 (.b1 .lst (.s 12)), .ite [] (.or (.cmp .notN (.e (.call 19 [.e (.v 8), .p (.s 12)])) (.e .non)) (.not (.v (.e (.call 37 [.e (.v 8), .p (.s 6), .p (.s 7), .p (.s 12)]))))) [.ret [] (.bl false)] [], .ite [] (.or (.not (.v (.e (.call 38 [.e (.v 8), .p (.s 12)])))) (.or (.not (.v (.e (.call 41 [.e (.v 8), .p (.s 6), .p (.s 7), .p (.s 12)])))) (.not (.v (.e (.call 42 [.e (.v 3), .p (.s 12)])))))) [.ret [] (.bl false)] [], .ite [] (.or (.cmp .ne (.s 12) (.s 13)) (.not (.v (.e (.call 37 [.e (.v 8), .p (.s 6), .p (.s 7), .p (.e (.sl (.s 12) none (some (.int 4))))]))))) [.ret [] (.bl false)] [], .ite [] (.v (.s 12)) [.seti [] 12 (.int 0) (.tup [.v 3, .int 7])] [], .ret [] (.and (.call 38 [.e (.v 8), .p (.s 12)]) (.call 41 [.e (.v 8), .p (.s 6), .p (.s 7), .p (.e (.sl (.s 12) (some (.neg (.int 5))) none))]))]
theorem eo_pairs (L : List Sp) : eqOk 60 (.lst (L.map prD)) = true := by
  simp only [eqOk]
  exact eqOks_map (pr_ok 58) L
theorem tail_ok (R2 : List Int) (hl2 : R2.length = 200) (days : Int) (hd1 : 1 ≤ days) (hd2 : days ≤ 400) (count : Int) (hc : 0 ≤ count ∧ count ≤ 40) {lo hi : List Int} (M : Lm lo hi) (hlo : lo.length = days.toNat) (H : List Rw3) (hH : H ≠ []) (hH2 : H.length ≤ 100) (hm : ∀ h ∈ H, 0 ≤ h.2.1 ∧ h.2.1 ≤ lo.length) (mv : List Int) (x0 x1 x5 x11 : Sl) :
    exss (S8 8) tailB [x0, x1, .own (R2.map .int), .val (.int days), .val (.int count), x5, .own ((sums 0 lo).map .int), .own ((sums 0 hi).map .int), .val (limO lo hi), .own (H.map rowD), .own (mv.map .int), x11, .no, .no] = .ret (.val (.bl true)) := by
  have hS := SLe
  obtain ⟨L, hL1, hL2, q36⟩ := slips_ok 5 R2 count hc hl2 M H hH hH2 hm mv
  have hl : L.length ≤ 40 := by omega
  have g36 : (S8 8).call 36 [.lst (R2.map .int), .int count, .lst ((sums 0 lo).map .int), .lst ((sums 0 hi).map .int), .lst (H.map rowD), .lst (mv.map .int)] = .ok (.own (L.map prD)) := by rw [s8, call_36]; exact q36
  have g19 : (S8 8).call 19 [limO lo hi, .lst (L.map prD)] = .ok (.val .non) := chks19 7 L hl hL2
  have g37 : ∀ L : List Sp, L.length ≤ 40 → (∀ s ∈ L, okS lo s) → (S8 8).call 37 [limO lo hi, .lst ((sums 0 lo).map .int), .lst ((sums 0 hi).map .int), .lst (L.map prD)] = .ok (.val (.bl true)) := fun L hl h => by rw [s8, call_37]; exact lpairs_ok 4 M L hl h
  have g38 : ∀ L : List Sp, L.length ≤ 40 → (∀ s ∈ L, okS lo s) → (S8 8).call 38 [limO lo hi, .lst (L.map prD)] = .ok (.val (.bl true)) := fun L hl h => by rw [s8, call_38]; exact lorder_ok 5 L hl h
  have g41 : ∀ L : List Sp, L.length ≤ 40 → (∀ s ∈ L, okS lo s) → (S8 8).call 41 [limO lo hi, .lst ((sums 0 lo).map .int), .lst ((sums 0 hi).map .int), .lst (L.map prD)] = .ok (.val (.bl true)) := fun L hl h => by rw [s8, call_41]; exact lhist_ok 1 M L hl h
  have g42 : (S8 8).call 42 [.int days, .lst (L.map prD)] = .ok (.val (.bl true)) := by rw [s8, call_42]; exact other_ok 3 days hd1 hd2 hlo L hl hL2
  obtain ⟨x2, hx2⟩ : ∃ x2, x2 = Sl.own (R2.map D.int) := ⟨_, rfl⟩
  obtain ⟨x6, hx6⟩ : ∃ x6, x6 = Sl.own ((sums 0 lo).map D.int) := ⟨_, rfl⟩
  obtain ⟨x7, hx7⟩ : ∃ x7, x7 = Sl.own ((sums 0 hi).map D.int) := ⟨_, rfl⟩
  obtain ⟨x9, hx9⟩ : ∃ x9, x9 = Sl.own (H.map rowD) := ⟨_, rfl⟩
  obtain ⟨x10, hx10⟩ : ∃ x10, x10 = Sl.own (mv.map D.int) := ⟨_, rfl⟩
  rw [← hx2, ← hx6, ← hx7, ← hx9, ← hx10]
  unfold tailB
  refine st_asg (ev_call (ds := [.lst (R2.map .int), .int count, .lst ((sums 0 lo).map .int), .lst ((sums 0 hi).map .int), .lst (H.map rowD), .lst (mv.map .int)]) (by rw [hx2, hx6, hx7, hx9, hx10]; simp only [args, arg, ev, evs, getv, po, pt, peek, peekT, List.getElem?_cons_succ, List.getElem?_cons_zero, Res.bind_ok, Vl.d_val, Vl.d_own]) g36) ?_
  simp only [List.set_cons_succ, List.set_cons_zero, Vl.sl_val, Vl.sl_own]
  refine st_asg (v := .own (L.map prD)) (by simp only [ev, evs, getv, po, pt, peek, peekT, List.getElem?_cons_succ, List.getElem?_cons_zero, Res.bind_ok, Vl.d_val, Vl.d_own, b1, seqOf]) ?_
  simp only [List.set_cons_succ, List.set_cons_zero, Vl.sl_val, Vl.sl_own]
  -- the judges, in any such environment
  have e8 : ∀ x12 x13, ev (S8 8) (.v 8) [x0, x1, x2, .val (.int days), .val (.int count), x5, x6, x7, .val (limO lo hi), x9, x10, x11, x12, x13] = .ok (.val (limO lo hi)) := fun x12 x13 => by simp only [ev, evs, getv, po, pt, peek, peekT, List.getElem?_cons_succ, List.getElem?_cons_zero, Res.bind_ok, Vl.d_val, Vl.d_own]
  have p6 : ∀ x12 x13, po (S8 8) (.s 6) [x0, x1, x2, .val (.int days), .val (.int count), x5, x6, x7, .val (limO lo hi), x9, x10, x11, x12, x13] = .ok (.lst ((sums 0 lo).map .int)) := fun x12 x13 => by rw [hx6]; simp only [ev, evs, getv, po, pt, peek, peekT, List.getElem?_cons_succ, List.getElem?_cons_zero, Res.bind_ok, Vl.d_val, Vl.d_own]
  have p7 : ∀ x12 x13, po (S8 8) (.s 7) [x0, x1, x2, .val (.int days), .val (.int count), x5, x6, x7, .val (limO lo hi), x9, x10, x11, x12, x13] = .ok (.lst ((sums 0 hi).map .int)) := fun x12 x13 => by rw [hx7]; simp only [ev, evs, getv, po, pt, peek, peekT, List.getElem?_cons_succ, List.getElem?_cons_zero, Res.bind_ok, Vl.d_val, Vl.d_own]
  have p12 : ∀ (L : List Sp) x13, po (S8 8) (.s 12) [x0, x1, x2, .val (.int days), .val (.int count), x5, x6, x7, .val (limO lo hi), x9, x10, x11, .own (L.map prD), x13] = .ok (.lst (L.map prD)) := fun L x13 => by simp only [ev, evs, getv, po, pt, peek, peekT, List.getElem?_cons_succ, List.getElem?_cons_zero, Res.bind_ok, Vl.d_val, Vl.d_own]
  have sl4 : ∀ (L : List Sp) x13, ev (S8 8) (.sl (.s 12) none (some (.int 4))) [x0, x1, x2, .val (.int days), .val (.int count), x5, x6, x7, .val (limO lo hi), x9, x10, x11, .own (L.map prD), x13] = .ok (.own ((cutL L none (some 4)).map prD)) := fun L x13 => by
    rw [ev]
    simp only [p12, part, ev, Res.bind_ok, asInt, slice]
    rw [cutL_map']
  have sl5 : ∀ (L : List Sp) x13, ev (S8 8) (.sl (.s 12) (some (.neg (.int 5))) none) [x0, x1, x2, .val (.int days), .val (.int count), x5, x6, x7, .val (limO lo hi), x9, x10, x11, .own (L.map prD), x13] = .ok (.own ((cutL L (some (-5)) none).map prD)) := fun L x13 => by
    rw [ev]
    simp only [p12, part, ev, Res.bind_ok, Vl.d_val, neg, asInt, slice]
    rw [cutL_map']
  have cl : ∀ (L : List Sp) a b, (cutL L a b).length ≤ L.length := fun L a b => by
    unfold cutL
    rw [List.length_take, List.length_drop]
    omega
  refine st_no (orF ?_ (ttF (ev_call (ds := [limO lo hi, .lst ((sums 0 lo).map .int), .lst ((sums 0 hi).map .int), .lst (L.map prD)]) (by simp only [args, arg, e8, p6, p7, p12, Res.bind_ok, Vl.d_val]) (g37 L hl hL2)))) ?_
  · have c19 := ev_call (c := S8 8) (env := [x0, x1, x2, .val (.int days), .val (.int count), x5, x6, x7, .val (limO lo hi), x9, x10, x11, .own (L.map prD), .own (L.map prD)]) (es := [.e (.v 8), .p (.s 12)]) (ds := [limO lo hi, .lst (L.map prD)]) (by simp only [args, arg, e8, p12, Res.bind_ok, Vl.d_val]) g19
    rw [tv]
    simp only [po, ↓c19, Res.bind_ok, Vl.d_val, ev]
    rfl
  have e3 : ∀ x12 x13, ev (S8 8) (.v 3) [x0, x1, x2, .val (.int days), .val (.int count), x5, x6, x7, .val (limO lo hi), x9, x10, x11, x12, x13] = .ok (.val (.int days)) := fun x12 x13 => by simp only [ev, evs, getv, po, pt, peek, peekT, List.getElem?_cons_succ, List.getElem?_cons_zero, Res.bind_ok, Vl.d_val, Vl.d_own]
  refine st_no (orF (ttF (ev_call (ds := [limO lo hi, .lst (L.map prD)]) (by simp only [args, arg, e8, p12, Res.bind_ok, Vl.d_val]) (g38 L hl hL2))) (orF (ttF (ev_call (ds := [limO lo hi, .lst ((sums 0 lo).map .int), .lst ((sums 0 hi).map .int), .lst (L.map prD)]) (by simp only [args, arg, e8, p6, p7, p12, Res.bind_ok, Vl.d_val]) (g41 L hl hL2))) (ttF (ev_call (ds := [.int days, .lst (L.map prD)]) (by simp only [args, arg, e3, p12, Res.bind_ok, Vl.d_val]) g42)))) ?_
  refine st_no (orF ?_ (ttF (ev_call (ds := [limO lo hi, .lst ((sums 0 lo).map .int), .lst ((sums 0 hi).map .int), .lst ((cutL L none (some 4)).map prD)]) (by simp only [args, arg, e8, p6, p7, po, sl4, Res.bind_ok, Vl.d_val, Vl.d_own]; rw [show peek _ 6 = _ from p6 _ _, show peek _ 7 = _ from p7 _ _]; rfl) (g37 _ (Nat.le_trans (cl _ _ _) hl) fun s hs => hL2 s (cutL_mem hs))))) ?_
  · simp only [tv, p12, Res.bind_ok, po, peek, List.getElem?_cons_succ, List.getElem?_cons_zero]
    exact cmp_self_ne (eo_pairs L)
  have fin : ∀ L : List Sp, L.length ≤ 40 → (∀ s ∈ L, okS lo s) → ∀ x13, exss (S8 8) [.ret [] (.and (.call 38 [.e (.v 8), .p (.s 12)]) (.call 41 [.e (.v 8), .p (.s 6), .p (.s 7), .p (.e (.sl (.s 12) (some (.neg (.int 5))) none))]))] [x0, x1, x2, .val (.int days), .val (.int count), x5, x6, x7, .val (limO lo hi), x9, x10, x11, .own (L.map prD), x13] = .ret (.val (.bl true)) := fun L hl h x13 => by
    refine st_ret (abt (ev_call (ds := [limO lo hi, .lst (L.map prD)]) (by simp only [args, arg, e8, p12, Res.bind_ok, Vl.d_val]) (g38 L hl h)) (ev_call (ds := [limO lo hi, .lst ((sums 0 lo).map .int), .lst ((sums 0 hi).map .int), .lst ((cutL L (some (-5)) none).map prD)]) ?_ (g41 _ (Nat.le_trans (cl _ _ _) hl) fun s hs => h s (cutL_mem hs))))
    simp only [args, arg, e8, p6, p7, po, sl5, Res.bind_ok, Vl.d_val, Vl.d_own]
    rw [show peek _ 6 = _ from p6 _ _, show peek _ 7 = _ from p7 _ _]
    rfl
  cases L with
  | nil => exact st_no rfl (fin [] (by simp) (fun s h => by cases h) _)
  | cons s L =>
    refine st_yes rfl (st_seti (v := .val (prD (days, 7))) (z := 0) (j := 0) rfl (tup2 (by simp only [ev, evs, getv, po, pt, peek, peekT, List.getElem?_cons_succ, List.getElem?_cons_zero, Res.bind_ok, Vl.d_val, Vl.d_own]) (by simp only [ev, evs, getv, po, pt, peek, peekT, List.getElem?_cons_succ, List.getElem?_cons_zero, Res.bind_ok, Vl.d_val, Vl.d_own])) rfl (by unfold ixNat; rw [if_pos (by omega), if_pos (by rw [List.length_map, List.length_cons]; omega)]; rfl) rfl) ?_
    refine fin ((days, 7) :: L) (by rw [List.length_cons] at hl ⊢; exact hl) (fun z hz => ?_) _
    rcases List.mem_cons.mp hz with rfl | hz
    · unfold okS
      simp only
      omega
    · exact hL2 z (List.mem_cons_of_mem _ hz)
theorem rest_ok (R R2 : List Int) (hl : R.length = 40) (hl2 : R2.length = 200) (days : Int) (hd1 : 1 ≤ days) (hd2 : days ≤ 400) (count : Int) (hc : 0 ≤ count ∧ count ≤ 40) (x0 : Sl) :
    exss (S8 8) (f_law.body.drop 6) [x0, .own (R.map .int), .own (R2.map .int), .val (.int days), .val (.int count), .no, .no, .no, .no, .no, .no, .no, .no, .no] = .ret (.val (.bl true)) := by
  have hS := SLe
  have a19 := atR_b (R := R) (i := 19) (m := 4) (by omega)
  obtain ⟨top, htop⟩ : ∃ top, top = ([1, 9, 1000, 1000000] : List Int).getD (atR R 19 4).toNat 0 := ⟨_, rfl⟩
  have tb : 0 ≤ top ∧ top ≤ 1000000 := by
    have : (atR R 19 4).toNat = 0 ∨ (atR R 19 4).toNat = 1 ∨ (atR R 19 4).toNat = 2 ∨ (atR R 19 4).toNat = 3 := by omega
    rw [htop]
    rcases this with e | e | e | e <;> rw [e] <;> exact ⟨by decide, by decide⟩
  obtain ⟨rs, hmk, hrl, q31⟩ := lrows_ok 6 R 3 days top (by omega) (by omega) hd1 hd2 tb.1 tb.2
  have g31 : (S8 8).call 31 [.lst (R.map .int), .int 3, .int days, .int top] = .ok (.own (rs.map rowD)) := by rw [s8, call_31]; exact q31
  have M := made_lm hmk
  have g4 : (S8 8).call 4 [.int days, .lst (rs.map rowD)] = .ok (.val (limO (ptsOf true days rs) (ptsOf false days rs))) := by
    rw [s8, call_4]
    rcases made_ok 6 days rs with ⟨_, q⟩ | ⟨e, fs, q, _⟩
    · exact q
    · rw [hmk] at q
      cases q
  have g32 : (S8 8).call 32 [.lst (rs.map rowD), .int days, .int 1] = .ok (.own ((sums 0 (ptsOf true days rs)).map .int)) := by rw [s8, call_32]; exact lsums_ok (S8 7) days rs hmk true
  have g322 : (S8 8).call 32 [.lst (rs.map rowD), .int days, .int 2] = .ok (.own ((sums 0 (ptsOf false days rs)).map .int)) := by rw [s8, call_32]; exact lsums_ok (S8 7) days rs hmk false
  obtain ⟨lo, hlo⟩ : ∃ lo, lo = ptsOf true days rs := ⟨_, rfl⟩
  obtain ⟨hi, hhi⟩ : ∃ hi, hi = ptsOf false days rs := ⟨_, rfl⟩
  rw [← hlo] at M g4 g32
  rw [← hhi] at M g4 g322
  have hlen : lo.length = days.toNat := by rw [hlo, ptsOf_len]
  obtain ⟨H, hH1, hH2, q34⟩ := hid_ok 6 R 20 (by omega) (by omega) M
  have g34 : (S8 8).call 34 [.lst (R.map .int), .int 20, .lst ((sums 0 lo).map .int), .lst ((sums 0 hi).map .int)] = .ok (.own (H.map rowD)) := by rw [s8, call_34]; exact q34
  have g19 := at29 7 R 19 4 (by omega) (by omega) (by omega)
  have g31' := at29 7 R 31 4 (by omega) (by omega) (by omega)
  have g32' := at29 7 R 32 10 (by omega) (by omega) (by omega)
  have a31 := atR_b (R := R) (i := 31) (m := 4) (by omega)
  obtain ⟨md, hmd⟩ : ∃ md, md = atR R 31 4 := ⟨_, rfl⟩
  rw [← hmd] at g31' a31
  have c19 := fun r => ev_call (c := S8 8) (env := x0 :: .own (R.map .int) :: r) (es := [.p (.s 1), .p (.e (.int 19)), .e (.int 4)]) (by simp only [args, arg, ev, evs, getv, po, pt, peek, peekT, List.getElem?_cons_succ, List.getElem?_cons_zero, Res.bind_ok, Vl.d_val, Vl.d_own]) g19
  have c31 := fun r => ev_call (c := S8 8) (env := x0 :: .own (R.map .int) :: r) (es := [.p (.s 1), .p (.e (.int 31)), .e (.int 4)]) (by simp only [args, arg, ev, evs, getv, po, pt, peek, peekT, List.getElem?_cons_succ, List.getElem?_cons_zero, Res.bind_ok, Vl.d_val, Vl.d_own]) g31'
  have c32 := fun r => ev_call (c := S8 8) (env := x0 :: .own (R.map .int) :: r) (es := [.p (.s 1), .p (.e (.int 32)), .e (.int 10)]) (by simp only [args, arg, ev, evs, getv, po, pt, peek, peekT, List.getElem?_cons_succ, List.getElem?_cons_zero, Res.bind_ok, Vl.d_val, Vl.d_own]) g32'
  have l4 : ∀ env, ev (S8 8) (.lst [.int 1, .int 9, .int 1000, .int 1000000]) env = .ok (.own ([1, 9, 1000, 1000000].map D.int)) := fun env => rfl
  have i4 := index_ints (R := [1, 9, 1000, 1000000]) (i := atR R 19 4) a19.1 a19.2
  rw [← htop] at i4
  have et : ∀ r, ev (S8 8) (.ix (.e (.lst [.int 1, .int 9, .int 1000, .int 1000000])) (.e (.call 29 [.p (.s 1), .p (.e (.int 19)), .e (.int 4)]))) (x0 :: .own (R.map .int) :: r) = .ok (.val (.int top)) := fun r => by
    rw [ev]
    simp only [po, ↓c19, ↓l4, Res.bind_ok, Vl.d_own, Vl.d_val, i4]
  unfold f_law
  simp only [List.drop_succ_cons, List.drop_zero]
  refine st_asg (ev_call (ds := [.lst (R.map .int), .int 3, .int days, .int top]) (by simp only [args, arg, ↓et, po, peek, ev, getv, List.getElem?_cons_succ, List.getElem?_cons_zero, Res.bind_ok, Vl.d_val]) g31) ?_
  simp only [List.set_cons_succ, List.set_cons_zero, Vl.sl_val, Vl.sl_own]
  refine st_asg (ev_call (ds := [.lst (rs.map rowD), .int days, .int 1]) (by simp only [args, arg, ev, evs, getv, po, pt, peek, peekT, List.getElem?_cons_succ, List.getElem?_cons_zero, Res.bind_ok, Vl.d_val, Vl.d_own]) g32) ?_
  simp only [List.set_cons_succ, List.set_cons_zero, Vl.sl_val, Vl.sl_own]
  refine st_asg (ev_call (ds := [.lst (rs.map rowD), .int days, .int 2]) (by simp only [args, arg, ev, evs, getv, po, pt, peek, peekT, List.getElem?_cons_succ, List.getElem?_cons_zero, Res.bind_ok, Vl.d_val, Vl.d_own]) g322) ?_
  simp only [List.set_cons_succ, List.set_cons_zero, Vl.sl_val, Vl.sl_own]
  refine st_asg (ev_mk (ds := [.int days, .lst (rs.map rowD)]) (by simp only [args, arg, ev, evs, getv, po, pt, peek, peekT, List.getElem?_cons_succ, List.getElem?_cons_zero, Res.bind_ok, Vl.d_val, Vl.d_own]) g4) ?_
  simp only [List.set_cons_succ, List.set_cons_zero, Vl.sl_val, Vl.sl_own]
  refine st_asg (ev_call (ds := [.lst (R.map .int), .int 20, .lst ((sums 0 lo).map .int), .lst ((sums 0 hi).map .int)]) (by simp only [args, arg, ev, evs, getv, po, pt, peek, peekT, List.getElem?_cons_succ, List.getElem?_cons_zero, Res.bind_ok, Vl.d_val, Vl.d_own]) g34) ?_
  simp only [List.set_cons_succ, List.set_cons_zero, Vl.sl_val, Vl.sl_own]
  have rg : rangeD 0 count = (daysFrom 0 count.toNat).map D.int := rangeD_days count
  refine st_asg (v := .own ((daysFrom 0 count.toNat).map D.int)) ?_ ?_
  · rw [ev]
    simp only [ev, getv, List.getElem?_cons_succ, List.getElem?_cons_zero, Res.bind_ok, asInt, inR_s (show -4611686018427387904 ≤ count by omega) (by omega), decide_eq_true (show count ≤ (SL : Int) by omega), Bool.and_self, if_true, rg]
  simp only [List.set_cons_succ, List.set_cons_zero, Vl.sl_val, Vl.sl_own]
  refine st_asg (c31 _) ?_
  simp only [List.set_cons_succ, List.set_cons_zero, Vl.sl_val, Vl.sl_own]
  have hne : H ≠ [] := by intro e; rw [e] at hH1; cases hH1
  by_cases hmode : md < 2
  · have sl9 : ∀ r x2 x3 x4 x5 x6 x7 x8, ev (S8 8) (.sl (.s 9) none (some (.int 1))) (x0 :: .own (R.map .int) :: x2 :: x3 :: x4 :: x5 :: x6 :: x7 :: x8 :: .own (H.map rowD) :: r) = .ok (.own ((cutL H none (some 1)).map rowD)) := fun r x2 x3 x4 x5 x6 x7 x8 => by
      rw [ev]
      simp only [po, peek, List.getElem?_cons_succ, List.getElem?_cons_zero, part, ev, Res.bind_ok, asInt, slice]
      rw [cutL_map']
    have c9 : (cutL H none (some 1)).length = 1 := by
      unfold cutL cutIx
      rw [List.length_take, List.length_drop]
      simp only [hH1]
      rw [if_neg (by omega)]
      omega
    refine st_yes (by simp only [tv, ev, evs, getv, po, pt, peek, peekT, List.getElem?_cons_succ, List.getElem?_cons_zero, Res.bind_ok, Vl.d_val, Vl.d_own, cmp_lt, decide_eq_true hmode]) (st_asg (sl9 _ _ _ _ _ _ _ _) (st_asg (v := .own ((cutL [atR R 32 10] none (some md)).map D.int)) ?_ rfl)) ?_
    · have e1 : ∀ r, ev (S8 8) (.lst [.call 29 [.p (.s 1), .p (.e (.int 32)), .e (.int 10)]]) (x0 :: .own (R.map .int) :: r) = .ok (.own ([atR R 32 10].map D.int)) := fun r => by
        simp only [ev, evs, ↓c32, Res.bind_ok, Vl.d_val, List.length_cons, List.length_nil]
        rfl
      simp only [List.set_cons_succ, List.set_cons_zero, Vl.sl_val, Vl.sl_own]
      rw [ev]
      simp only [po, ↓e1, Res.bind_ok, Vl.d_own, part, ev, getv, List.getElem?_cons_succ, List.getElem?_cons_zero, asInt, slice]
      rw [cutL_map']
    · exact tail_ok R2 hl2 days hd1 hd2 count hc M hlen (cutL H none (some 1)) (by intro e; rw [e] at c9; cases c9) (by omega) (fun h hh => hH2 h (cutL_mem hh)) _ _ _ _ _
  · refine st_no (by simp only [tv, ev, evs, getv, po, pt, peek, peekT, List.getElem?_cons_succ, List.getElem?_cons_zero, Res.bind_ok, Vl.d_val, Vl.d_own, cmp_lt, decide_eq_false hmode]) ?_
    exact tail_ok R2 hl2 days hd1 hd2 count hc M hlen H hne (by omega) hH2 _ _ _ _ _
theorem math (ns : List Int) (h : ns.length ≤ 63) (_ : ∀ z ∈ ns, PySem.Builtin.Int.intBits z ≤ 1048576) : sem (tblOf T) 0 9 43 [.lst (ns.map D.int)] = .ok (.val (.bl true)) := by
  rw [sem_f 8 43 _ rfl]
  obtain ⟨a0, ha0⟩ : ∃ a0, a0 = ns.getD 0 0 := ⟨_, rfl⟩
  obtain ⟨a1, ha1⟩ : ∃ a1, a1 = ns.getD 1 0 := ⟨_, rfl⟩
  have g27 : (S8 8).call 27 [.lst (ns.map .int), .int 0] = .ok (.val (.int a0)) := by
    rw [s8, call_27, ha0]
    exact cell_ok _ ns 0 (by omega)
  have g271 : (S8 8).call 27 [.lst (ns.map .int), .int 1] = .ok (.val (.int a1)) := by
    rw [s8, call_27, ha1]
    exact cell_ok _ ns 1 (by omega)
  obtain ⟨R, hl, hR, qR⟩ := row_ok (S8 7) a0 40 (by omega)
  obtain ⟨R2, hl2, hR2, qR2⟩ := row_ok (S8 7) (a1 + 977 * a0) 200 (by omega)
  have g28 : (S8 8).call 28 [.int a0, .int 40] = .ok (.own (R.map .int)) := by rw [s8, call_28]; exact qR
  have g282 : (S8 8).call 28 [.int (a1 + 977 * a0), .int 200] = .ok (.own (R2.map .int)) := by rw [s8, call_28]; exact qR2
  have m977 := bin_mul 977 a0 (mul_l (by omega) (by omega))
  refine run_ret rfl rfl ?_
  show exss (S8 8) f_law.body [.pk (ns.map .int), .no, .no, .no, .no, .no, .no, .no, .no, .no, .no, .no, .no, .no] = _
  obtain ⟨x0, hx0⟩ : ∃ x0, x0 = Sl.pk (ns.map D.int) := ⟨_, rfl⟩
  have k0 := fun r => ev_call (c := S8 8) (env := .pk (ns.map .int) :: r) (es := [.p (.s 0), .p (.e (.int 0))]) (by simp only [args, arg, ev, evs, getv, po, pt, peek, peekT, List.getElem?_cons_succ, List.getElem?_cons_zero, Res.bind_ok, Vl.d_val, Vl.d_own]) g27
  have k1 := fun r => ev_call (c := S8 8) (env := .pk (ns.map .int) :: r) (es := [.p (.s 0), .p (.e (.int 1))]) (by simp only [args, arg, ev, evs, getv, po, pt, peek, peekT, List.getElem?_cons_succ, List.getElem?_cons_zero, Res.bind_ok, Vl.d_val, Vl.d_own]) g271
  rw [← hx0] at k0 k1 ⊢
  have c0 := fun r => ev_call (c := S8 8) (env := x0 :: .own (R.map .int) :: r) (es := [.p (.s 1), .p (.e (.int 0)), .e (.int 30)]) (by simp only [args, arg, ev, evs, getv, po, pt, peek, peekT, List.getElem?_cons_succ, List.getElem?_cons_zero, Res.bind_ok, Vl.d_val, Vl.d_own]) (at29 7 R 0 30 (by omega) (by omega) (by omega))
  have c1 := fun r => ev_call (c := S8 8) (env := x0 :: .own (R.map .int) :: r) (es := [.p (.s 1), .p (.e (.int 1)), .e (.int 10)]) (by simp only [args, arg, ev, evs, getv, po, pt, peek, peekT, List.getElem?_cons_succ, List.getElem?_cons_zero, Res.bind_ok, Vl.d_val, Vl.d_own]) (at29 7 R 1 10 (by omega) (by omega) (by omega))
  have c2 := fun r => ev_call (c := S8 8) (env := x0 :: .own (R.map .int) :: r) (es := [.p (.s 1), .p (.e (.int 2)), .e (.int 8)]) (by simp only [args, arg, ev, evs, getv, po, pt, peek, peekT, List.getElem?_cons_succ, List.getElem?_cons_zero, Res.bind_ok, Vl.d_val, Vl.d_own]) (at29 7 R 2 8 (by omega) (by omega) (by omega))
  have b0 := atR_b (R := R) (i := 0) (m := 30) (by omega)
  have b1' := atR_b (R := R) (i := 1) (m := 10) (by omega)
  have rr := fun days hd1 hd2 count hc => rest_ok R R2 hl hl2 days hd1 hd2 count hc x0
  unfold f_law at rr ⊢
  simp only [List.drop_succ_cons, List.drop_zero] at rr
  refine st_asg (ev_call (ds := [.int a0, .int 40]) (by simp only [args, arg, ↓k0, ev, evs, getv, po, pt, peek, peekT, List.getElem?_cons_succ, List.getElem?_cons_zero, Res.bind_ok, Vl.d_val, Vl.d_own]) g28) ?_
  simp only [List.set_cons_succ, List.set_cons_zero, Vl.sl_val, Vl.sl_own]
  refine st_asg (ev_call (ds := [.int (a1 + 977 * a0), .int 200]) (by simp only [args, arg, ↓k0, ↓k1, ev, evs, getv, po, pt, peek, peekT, List.getElem?_cons_succ, List.getElem?_cons_zero, Res.bind_ok, Vl.d_val, Vl.d_own, m977, bin_add]) g282) ?_
  simp only [List.set_cons_succ, List.set_cons_zero, Vl.sl_val, Vl.sl_own]
  refine st_asg (v := .val (.int (atR R 0 30 + 1))) (by rw [ev]; simp only [pt, ↓c0, Res.bind_ok, Vl.d_val, ev, bin_add]) ?_
  simp only [List.set_cons_succ, List.set_cons_zero, Vl.sl_val, Vl.sl_own]
  refine st_asg (c1 _) ?_
  simp only [List.set_cons_succ, List.set_cons_zero, Vl.sl_val, Vl.sl_own]
  have t : ∀ (z : Int) r, tv (S8 8) (.cmp .eq (.e (.call 29 [.p (.s 1), .p (.e (.int 2)), .e (.int 8)])) (.e (.int z))) (x0 :: .own (R.map .int) :: r) = .ok (atR R 2 8 == z) := fun z r => by
    rw [tv]
    simp only [po, ↓c2, Res.bind_ok, Vl.d_val, ev, cmp_eq]
  have second : ∀ days : Int, 1 ≤ days → days ≤ 400 → ∀ count : Int, (0 ≤ count ∧ count ≤ 40) → ∀ (rest : List PL.S), (∀ count : Int, (0 ≤ count ∧ count ≤ 40) → exss (S8 8) rest [x0, .own (R.map .int), .own (R2.map .int), .val (.int days), .val (.int count), .no, .no, .no, .no, .no, .no, .no, .no, .no] = .ret (.val (.bl true))) →
      exss (S8 8) (.ite [] (.cmp .eq (.e (.call 29 [.p (.s 1), .p (.e (.int 2)), .e (.int 8)])) (.e (.int 5))) [.asg [] 4 (.int 40)] [] :: rest) [x0, .own (R.map .int), .own (R2.map .int), .val (.int days), .val (.int count), .no, .no, .no, .no, .no, .no, .no, .no, .no] = .ret (.val (.bl true)) := fun days h1 h2 count hc rest hr => by
    cases h5 : atR R 2 8 == 5 with
    | false => exact st_no ((t 5 _).trans (by rw [h5])) (hr count hc)
    | true => exact st_yes ((t 5 _).trans (by rw [h5])) (st_asg (v := .val (.int 40)) rfl rfl) (hr 40 (by omega))
  cases h3 : atR R 2 8 == 3 with
  | false => exact st_no ((t 3 _).trans (by rw [h3])) (second _ (by omega) (by omega) _ (by omega) _ fun count hc => rr _ (by omega) (by omega) count hc)
  | true => exact st_yes ((t 3 _).trans (by rw [h3])) (st_asg (v := .val (.int 400)) rfl rfl) (second 400 (by omega) (by omega) _ (by omega) _ fun count hc => rr 400 (by omega) (by omega) count hc)
end PL.K22

open PySem PySem.W PySem.Calls PyProof.Rows
theorem PySem.Challenge.cw_dialhouse_k22_slips_of_one_meter_holds : PySem.Challenge.rw_dialhouse_k22_slips_of_one_meter.Holds := by
  w_on; o_law
  refine HandSHeadRun.head_any (r := OpenLaw.row PySem.Challenge.rw_dialhouse_k22_slips_of_one_meter) (q := view (OpenLaw.row PySem.Challenge.rw_dialhouse_k22_slips_of_one_meter).prog [58]) (H := PL.K22.hk) (ob := PL.K22.ob) (M := 8000) (loose := PL.K22.names) (d := HandSHeadRun.topDef (OpenLaw.row PySem.Challenge.rw_dialhouse_k22_slips_of_one_meter).prog 58) (kwd := []) PL.K22.ob_eq
    (by kernel_rfl) (fun s => by kernel_rfl) PL.K22.run (by kernel_rfl) (by kernel_rfl) (by kernel_rfl) (by rfl) (by first | assumption | decide +kernel) (by decide +kernel) ⟨rfl, rfl, rfl, rfl, rfl, by decide +kernel⟩ ?hw ?hc
  case hw => w_witness2
  case hc =>
    exact PL.walk_ofP (l := PySem.Challenge.rw_dialhouse_k22_slips_of_one_meter) (n := 63) (lv := 9) (f := 43) (F := 0) (T := PL.K22.T) (ds := PL.K22.ds) (x := "script") rfl (by decide) (by kernel_rfl) ⟨rfl, by decide, by decide⟩ PL.K22.fits rfl rfl rfl rfl rfl (by kernel_rfl) (by kernel_rfl) fun ns h hb => PL.K22.math ns h hb
