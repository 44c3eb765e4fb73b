import PyProof.Rows.All
import HandS.ForMost
import HandS.StrMore
import HandS.Exc
import HandS.ExcOwn
import HandS.ExcInit
import HandS.ExcField
import HandS.TryMany
import HandS.CallSlots
import HandS.Flow
import HandS.IsInst
import HandS.ExcCtx
import HandS.HotCalls
import HandS.FStr
import HandS.Deep
import HandS.SortRule
import HandS.RaiseMore
import HandS.RevRange
import HandS.Wide
import HandS.Conv
import HandS.SortKw
import HandS.SortInts
import HandS.Iter
import HandS.Comp
import HandS.HeadHook1
import HandS.SetFor
import HandS.Strs
import HandS.HeadHook2
import HandS.EndBits
import HandS.Head0
import HandS.Head1
import HandS.Head2
import HandS.HeadEnd
import HandS.Words
import HandS.WordsExc
import HandS.More
import HandS.Ends
import KE.KStateDown
import PySem.Challenge.RW_dialhouse_k38_fitted_patterns
set_option linter.all false
set_option Elab.async false
set_option maxRecDepth 100000
set_option maxHeartbeats 0
set_option linter.all false
set_option Elab.async false
/-! The pure layer: data, the small language, what it computes. No machine in sight. -/
namespace PL
open PySem (Str)

inductive D where
  | non | bl (b : Bool) | int (i : Int) | str (x : Str) | tup (xs : List D) | lst (xs : List D) | ins (c : Nat) (fs : List D)

/-- an answer: a value; an error of class c with its fields; nothing known -/
inductive Res (α : Type) where
  | ok (a : α) | err (c : Nat) (fs : List D) | bad
def Res.bind {α β : Type} (r : Res α) (f : α → Res β) : Res β := match r with
  | .ok a => f a
  | .err c fs => .err c fs
  | .bad => .bad
@[simp] theorem Res.bind_ok {α β : Type} (a : α) (f : α → Res β) : (Res.ok a).bind f = f a := rfl
@[simp] theorem Res.bind_err {α β : Type} (c : Nat) (fs : List D) (f : α → Res β) : (Res.err c fs : Res α).bind f = .err c fs := rfl
@[simp] theorem Res.bind_bad {α β : Type} (f : α → Res β) : (Res.bad : Res α).bind f = .bad := rfl

/-- a value: data, or a list that nobody else holds -/
inductive Vl where
  | val (d : D) | own (ds : List D)
def Vl.d : Vl → D
  | .val d => d
  | .own ds => .lst ds
@[simp] theorem Vl.d_val (d : D) : (Vl.val d).d = d := rfl
@[simp] theorem Vl.d_own (ds : List D) : (Vl.own ds).d = .lst ds := rfl

/-- data of which some lists and tuples are held by nobody else -/
inductive Ow where
  | dat (d : D) | lst (xs : List Ow) | tup (xs : List Ow)
mutual
def Ow.d : Ow → D
  | .dat d => d
  | .lst xs => .lst (Ow.ds xs)
  | .tup xs => .tup (Ow.ds xs)
def Ow.ds : List Ow → List D
  | [] => []
  | x :: xs => x.d :: Ow.ds xs
end
/-- a def's answer -/
inductive Rt where
  | v (x : Vl) | dp (o : Ow)
def Rt.fl : Rt → Vl
  | .v x => x
  | .dp o => .val o.d
@[simp] theorem Rt.fl_v (x : Vl) : (Rt.v x).fl = x := rfl
@[simp] theorem Rt.fl_dp (o : Ow) : (Rt.dp o).fl = .val o.d := rfl
/-- a slot -/
inductive Sl where
  | no | val (d : D) | own (ds : List D) | pk (ds : List D) | exc (c : Nat) (fs : List D) | obj (c : Nat) (ds : List D) | dp (o : Ow)
abbrev Env := List Sl
def Vl.sl : Vl → Sl
  | .val d => .val d
  | .own ds => .own ds
@[simp] theorem Vl.sl_val (d : D) : (Vl.val d).sl = .val d := rfl
@[simp] theorem Vl.sl_own (ds : List D) : (Vl.own ds).sl = .own ds := rfl

abbrev SL : Nat := 16777216

/-! ### operations on data -/
inductive O2 where
  | add | sub | mul | fdiv | mod | pow
inductive OC where
  | eq | ne | lt | le | gt | ge | isN | notN | isin | notin
inductive B1 where
  | len | abs | int | str | sum | lst | tup | sorted | max | min | sortr
inductive B2 where
  | max | min
inductive Ty where
  | int | bool | str | lst | tup
inductive M1 where
  | join | split | part | ends | rmpre | zfill | count
inductive M2 where
  | find | repl

def big : Int := 18446744073709551616
@[irreducible] def mulOk (a b : Int) : Bool := (decide (-big < a) && decide (a < big)) || ((decide (-big < b) && decide (b < big)) || decide (a.natAbs.log2 + b.natAbs.log2 < 134000000))
@[irreducible] def divOk (b : Int) : Bool := decide (b ≠ 0)
@[irreducible] def powOk (a b : Int) : Bool := decide (0 ≤ b) && (decide (b ≤ 1000000) && decide (a.natAbs < 18446744073709551616))

def ixNat (n : Nat) (i : Int) : Option Nat := if 0 ≤ i then (if i < n then some i.toNat else none) else if -(n : Int) ≤ i then some (i + n).toNat else none

def bin : O2 → D → D → Res Vl
  | .add, .int a, .int b => .ok (.val (.int (a + b)))
  | .add, .str a, .str b => if a.length + b.length ≤ SL then .ok (.val (.str (a ++ b))) else .bad
  | .add, .lst a, .lst b => if a.length + b.length ≤ SL then .ok (.own (a ++ b)) else .bad
  | .add, .tup a, .tup b => if a ≠ [] ∧ a.length + b.length ≤ SL then .ok (.val (.tup (a ++ b))) else .bad
  | .sub, .int a, .int b => .ok (.val (.int (a - b)))
  | .mul, .int a, .int b => if mulOk a b = true then .ok (.val (.int (a * b))) else .bad
  | .mul, .lst a, .int b => if -(2 ^ 63) ≤ b ∧ b < 2 ^ 63 ∧ a.length * b.toNat ≤ SL then .ok (.own (List.replicate b.toNat a).flatten) else .bad
  | .fdiv, .int a, .int b => if divOk b = true then .ok (.val (.int (a.fdiv b))) else .bad
  | .mod, .int a, .int b => if b = 0 then .bad else .ok (.val (.int (a.fmod b)))
  | .pow, .int a, .int b => if powOk a b = true then .ok (.val (.int (a ^ b.toNat))) else .bad
  | _, _, _ => .bad

/-! == of data -/
mutual
def eqD : D → D → Bool
  | .non, .non => true
  | .bl a, .bl b => a == b
  | .bl a, .int j => (if a then 1 else 0) == j
  | .int i, .bl b => i == (if b then 1 else 0)
  | .int i, .int j => i == j
  | .str x, .str y => x == y
  | .lst xs, .lst ys => eqDs xs ys
  | .tup xs, .tup ys => eqDs xs ys
  | _, _ => false
def eqDs : List D → List D → Bool
  | [], [] => true
  | x :: xs, y :: ys => eqD x y && eqDs xs ys
  | _, _ => false
end
/-! data that == may look at: no instances, texts of proper signs, not too deep -/
mutual
def eqOk : Nat → D → Bool
  | _, .non => true
  | _, .bl _ => true
  | _, .int _ => true
  | _, .str x => PySem.PyData.strOk x
  | 0, .tup _ => false
  | 0, .lst _ => false
  | n + 1, .tup xs => eqOks n xs
  | n + 1, .lst xs => eqOks n xs
  | _, .ins _ _ => false
def eqOks : Nat → List D → Bool
  | _, [] => true
  | n, x :: xs => eqOk n x && eqOks n xs
end
def flatD : D → Bool
  | .non => true
  | .bl _ => true
  | .int _ => true
  | .str _ => true
  | _ => false

def cmp : OC → D → D → Res Bool
  | .eq, a, b => if eqOk 60 a && eqOk 60 b then .ok (eqD a b) else .bad
  | .ne, a, b => if eqOk 60 a && eqOk 60 b then .ok (!eqD a b) else .bad
  | .lt, .int a, .int b => .ok (decide (a < b))
  | .le, .int a, .int b => .ok (decide (a ≤ b))
  | .gt, .int a, .int b => .ok (decide (b < a))
  | .ge, .int a, .int b => .ok (decide (b ≤ a))
  | .lt, .str a, .str b => .ok (decide (a.cps.toList < b.cps.toList))
  | .isN, .non, .non => .ok true
  | .isN, _, .non => .ok false
  | .isN, .bl a, .bl b => .ok (a == b)
  | .notN, .non, .non => .ok false
  | .notN, _, .non => .ok true
  | .notN, .bl a, .bl b => .ok (!(a == b))
  | .isin, .str a, .str b => (match a with
    | ⟨⟨[c]⟩⟩ => .ok (decide (c ∈ b.cps.toList))
    | _ => .bad)
  | .notin, .str a, .str b => (match a with
    | ⟨⟨[c]⟩⟩ => .ok (!decide (c ∈ b.cps.toList))
    | _ => .bad)
  | .isin, a, .lst ys => if eqOk 60 a && eqOk 60 (.lst ys) then .ok (ys.any fun y => eqD y a) else .bad
  | .notin, a, .lst ys => if eqOk 60 a && eqOk 60 (.lst ys) then .ok (!ys.any fun y => eqD y a) else .bad
  | .isin, a, .tup ys => if flatD a && ys.all flatD then .ok (ys.any fun y => eqD y a) else .bad
  | .notin, a, .tup ys => if flatD a && ys.all flatD then .ok (!ys.any fun y => eqD y a) else .bad
  | _, _, _ => .bad

def truth : D → Res Bool
  | .non => .ok false
  | .bl b => .ok b
  | .int i => .ok (i != 0)
  | .str x => if x.length ≤ SL then .ok ((x.length : Int) != 0) else .bad
  | .lst xs => .ok (!xs.isEmpty)
  | .tup xs => .ok (!xs.isEmpty)
  | _ => .bad

def neg : D → Res D
  | .int a => .ok (.int (-a))
  | _ => .bad

def index : D → D → Res D
  | .lst xs, .int i => (match (ixNat xs.length i).bind (xs[·]?) with
    | some d => .ok d
    | none => .bad)
  | .tup xs, .int i => (match (ixNat xs.length i).bind (xs[·]?) with
    | some d => .ok d
    | none => .bad)
  | .str x, .int i => if x.length ≤ SL then (match (ixNat x.cps.toList.length i).bind (x.cps.toList[·]?) with
    | some c => .ok (.str ⟨#[c]⟩)
    | none => .bad) else .bad
  | _, _ => .bad

/-- where a slice's end lies -/
def cutIx (n d : Nat) : Option Int → Nat
  | none => d
  | some v => if v < 0 then (v + (n : Int)).toNat else min v.toNat n
def cutL {α : Type} (xs : List α) (lo hi : Option Int) : List α := (xs.drop (cutIx xs.length 0 lo)).take (cutIx xs.length xs.length hi - cutIx xs.length 0 lo)
def slice : D → Option Int → Option Int → Res Vl
  | .lst xs, lo, hi => .ok (.own (cutL xs lo hi))
  | .tup xs, lo, hi => if cutIx xs.length 0 lo = 0 ∧ cutIx xs.length xs.length hi = xs.length then .bad else .ok (.val (.tup (cutL xs lo hi)))
  | .str x, lo, hi => if x.length ≤ SL then .ok (.val (.str ⟨(cutL x.cps.toList lo hi).toArray⟩)) else .bad
  | _, _, _ => .bad

def intsOf : List D → Option (List Int)
  | [] => some []
  | .int i :: r => (intsOf r).map (i :: ·)
  | _ :: _ => none
def strsOf : List D → Option (List Str)
  | [] => some []
  | .str i :: r => (strsOf r).map (i :: ·)
  | _ :: _ => none
def pairsOf : List D → Option (List (Int × Int))
  | [] => some []
  | .tup [.int a, .int b] :: r => (pairsOf r).map ((a, b) :: ·)
  | _ :: _ => none
def tripsOf : List D → Option (List (Int × Int × Int))
  | [] => some []
  | .tup [.int a, .int b, .int c] :: r => (tripsOf r).map ((a, b, c) :: ·)
  | _ :: _ => none
def leI (a b : Int) : Bool := decide (a ≤ b)
def geI (a b : Int) : Bool := decide (b ≤ a)
def leP (a b : Int × Int) : Bool := decide (a.1 < b.1) || (decide (a.1 = b.1) && decide (a.2 ≤ b.2))

def le3 (a b : Int × Int × Int) : Bool := decide (a.1 < b.1) || (decide (a.1 = b.1) && (decide (a.2.1 < b.2.1) || (decide (a.2.1 = b.2.1) && decide (a.2.2 ≤ b.2.2))))
def len : D → Res D
  | .lst xs => .ok (.int xs.length)
  | .tup xs => .ok (.int xs.length)
  | .str x => if x.length ≤ SL then .ok (.int x.length) else .bad
  | _ => .bad
def seqOf : D → Option (List D)
  | .lst xs => some xs
  | .tup xs => some xs
  | _ => none
/-- what a for walks -/
def walkOf : D → Option (List D)
  | .lst xs => some xs
  | .tup xs => some xs
  | .str x => some (x.cps.toList.map fun c => .str ⟨#[c]⟩)
  | _ => none
def listI (ns : List Int) : List D := ns.map .int
def sumI (ns : List Int) : Int := ns.sum
def sortD (xs : List D) : Res Vl := match intsOf xs with
  | some ns => .ok (.own (listI (ns.mergeSort leI)))
  | none => (match pairsOf xs with
    | some ps => .ok (.own ((ps.mergeSort leP).map fun p => .tup [.int p.1, .int p.2]))
    | none => (match tripsOf xs with
      | some ts => .ok (.own ((ts.mergeSort le3).map fun t => .tup [.int t.1, .int t.2.1, .int t.2.2]))
      | none => .bad))
/-- a number put into an ascending list -/
def insI (k : Int) : List Int → List Int
  | [] => [k]
  | x :: r => if k < x then k :: x :: r else if k = x then x :: r else x :: insI k r
def ssetI (ns : List Int) : List Int := ns.foldr insI []
/-- sorted(set(xs)) -/
def ssetD : D → Res Vl
  | .lst xs => (match intsOf xs with
    | some ns => if ns.length ≤ 63 then .ok (.own (listI (ssetI ns))) else .bad
    | none => .bad)
  | _ => .bad
def b1 : B1 → D → Res Vl
  | .len, d => (len d).bind fun z => .ok (.val z)
  | .abs, .int i => .ok (.val (.int (if i < 0 then -i else i)))
  | .int, .int i => .ok (.val (.int i))
  | .int, .bl b => .ok (.val (.int (if b then 1 else 0)))
  | .int, .str x => (match PySem.intText? x with
    | some n => if x.length ≤ 640 then .ok (.val (.int n)) else .bad
    | none => .bad)
  | .str, .int i => if i.natAbs.log2 < 1920 then .ok (.val (.str (toString i))) else .bad
  | .sum, .lst xs => (match intsOf xs with
    | some ns => .ok (.val (.int (sumI ns)))
    | none => .bad)
  | .lst, d => (match seqOf d with
    | some xs => .ok (.own xs)
    | none => .bad)
  | .tup, d => (match seqOf d with
    | some xs => .ok (.val (.tup xs))
    | none => .bad)
  | .sorted, .lst xs => sortD xs
  | .sortr, .lst xs => (match intsOf xs with
    | some ns => .ok (.own (listI (ns.mergeSort geI)))
    | none => .bad)
  | .max, .lst xs => (match intsOf xs with
    | some (n :: ns) => .ok (.val (.int (ns.foldl max n)))
    | _ => .bad)
  | .min, .lst xs => (match intsOf xs with
    | some (n :: ns) => .ok (.val (.int (ns.foldl min n)))
    | _ => .bad)
  | _, _ => .bad
def b2 : B2 → D → D → Res Vl
  | .max, .int i, .int j => .ok (.val (.int (if j > i then j else i)))
  | .min, .int i, .int j => .ok (.val (.int (if j < i then j else i)))
  | _, _, _ => .bad
def isTy : D → Ty → Res Bool
  | .non, _ => .ok false
  | .bl _, .bool => .ok true
  | .bl _, .int => .ok true
  | .bl _, _ => .ok false
  | .int _, .int => .ok true
  | .int _, _ => .ok false
  | .str _, .str => .ok true
  | .str _, _ => .ok false
  | .lst _, .lst => .ok true
  | .lst _, _ => .ok false
  | .tup _, .tup => .ok true
  | .tup _, _ => .ok false
  | .ins _ _, _ => .bad
def m1 : M1 → Str → D → Res Vl
  | .join, x, .lst ys => (match strsOf ys with
    | some zs => if (zs.map (·.length)).sum + zs.length * x.length ≤ SL then .ok (.val (.str (PySem.Txt.join x zs))) else .bad
    | none => .bad)
  | .split, x, .str y => if (y.length == 0) = false ∧ x.length + 2 ≤ SL then .ok (.own ((PySem.Txt.split x y).map .str)) else .bad
  | .part, x, .str y => if (y.length == 0) = false ∧ x.length ≤ SL then .ok (.val (.tup [.str (PySem.Txt.partition x y).1, .str (PySem.Txt.partition x y).2.1, .str (PySem.Txt.partition x y).2.2])) else .bad
  | .rmpre, x, .str y => if x.length ≤ SL then .ok (.val (.str (PySem.Txt.removeprefix x y))) else .bad
  | .zfill, x, .int i => if PySem.PadOk i = true then .ok (.val (.str (PySem.Txt.zfill x i))) else .bad
  | .ends, x, .str y => .ok (.val (.bl (PySem.Txt.endswith x y)))
  | .count, x, .str y => .ok (.val (.int (PySem.Txt.count x y)))
  | _, _, _ => .bad

/-! ### the language -/
/-- a target: a name, a tuple of names -/
inductive Tg where
  | n (i : Nat) | t (is : List Nat)
mutual
inductive E where
  | non | bl (b : Bool) | int (i : Int) | str (x : Str)
  | v (i : Nat)
  | g (j : Nat) (d : D)
  | neg (a : E) | not (a : E) | and (a b : E) | or (a b : E)
  | bin (o : O2) (a b : O)
  | cmp (c : OC) (a b : O)
  | ch2 (c d : OC) (x y z : O)
  | ch3 (c d e : OC) (x y z w : O)
  | tup (es : List E) | lst (es : List E)
  | ix (a i : O)
  | sl (a : O) (lo hi : Option E)
  | call (f : Nat) (es : List A)
  | mth (c f : Nat) (o : E) (es : List A)
  | mk (c : Nat) (es : List A)
  | fld (o : E) (c j : Nat)
  | xf (i c j : Nat) | sf (i c j : Nat) | isx (i : Nat)
  | b1 (b : B1) (a : O) | b2 (b : B2) (x y : O) | isi (a : O) (t : Ty)
  | m1 (m : M1) (o : E) (a : O)
  | comp (tg : Tg) (it : It) (cs : List T) (el : E) (own : List Nat)
  | fmt (a : E) | js (es : List E) | lrg (a : E) | fz (a : E) | lidx (o : O) (a : E) | sset (o : O) | lrg2 (a b : E)
/-- an operand: a slot that is looked at, or a value -/
inductive O where
  | s (i : Nat) | e (e : E)
inductive A where
  | p (o : O) | e (e : E)
/-- a test -/
inductive T where
  | v (o : O)
  | not (a : T) | and (a b : T) | or (a b : T)
  | cmp (c : OC) (a b : O)
  | ch2 (c d : OC) (x y z : O)
  | ch3 (c d e : OC) (x y z w : O)
inductive It where
  | r1 (a : E) | r2 (a b : E) | sq (o : O) | rev (o : O) | revr (a b : E) | r3 (a b k : E)
end
/-- a key on the way to a part -/
inductive Ky where
  | c (i : Int) | v (i : Nat)
/-- a value of which the parts may be one's own; s: a slot that is given away -/
inductive OE where
  | e (x : E) | tup (es : List OE) | lst (es : List OE) | s (i : Nat) | call (f : Nat) (es : List A)
inductive S where
  | asg (fr : List Nat) (i : Nat) (e : E)
  | asgt (fr : List Nat) (is : List Nat) (e : E)
  | aug (i : Nat) (o : O2) (e : E)
  | app (fr : List Nat) (i : Nat) (e : E)
  | seti (fr : List Nat) (i : Nat) (k e : E)
  | augi (i : Nat) (k : E) (o : O2) (e : E)
  | setf (fr : List Nat) (c j : Nat) (e : E)
  | ite (fr : List Nat) (c : T) (a b : List S)
  | whl (fr : List Nat) (c : T) (b : List S)
  | forl (fr : List Nat) (tg : Tg) (it : It) (b : List S)
  | ret (fr : List Nat) (e : E) | retn | reto (i : Nat)
  | ex (fr : List Nat) (e : E) | pass | cont
  | rais (c : Nat) (es : List E)
  | try (b : List S) (hs : List (Nat × Option Nat × List S))
  | asgo (fr : List Nat) (i : Nat) (x : OE)
  | asgot (fr : List Nat) (is : List Nat) (x : OE)
  | retd (fr : List Nat) (x : OE)
  | appd (fr tf : List Nat) (i : Nat) (ks : List Ky) (e : E)
  | setd (fr tf : List Nat) (i : Nat) (ks : List Ky) (k : Ky) (e : E)
  | asgT (fr tf : List Nat) (i : Nat) (e : E)
  | iteT (fr tf : List Nat) (c : T) (a b : List S)
  | exT (fr tf : List Nat) (e : E)
  | retT (fr tf : List Nat) (e : E)
  | th (s : S) (l : List Nat)
  | fz (l : List Nat)
  | apop (fr : List Nat) (i j : Nat)

/-! ### what it computes -/
structure Ctx where
  callx : Nat → List D → Res Rt
  fuel : Nat
def Ctx.call (c : Ctx) (f : Nat) (ds : List D) : Res Vl := (c.callx f ds).bind fun r => .ok r.fl
def peek (env : Env) (i : Nat) : Res D := match env[i]? with
  | some (.val d) => .ok d
  | some (.own ds) => .ok (.lst ds)
  | some (.pk ds) => .ok (.lst ds)
  | _ => .bad
def peekT (env : Env) (i : Nat) : Res D := match env[i]? with
  | some (.val d) => .ok d
  | some (.own ds) => .ok (.lst ds)
  | _ => .bad
def getv (env : Env) (i : Nat) : Res Vl := match env[i]? with
  | some (.val d) => .ok (.val d)
  | _ => .bad
def ofB (r : Res Bool) : Res Vl := r.bind fun b => .ok (.val (.bl b))
def setT : Tg → D → Env → Option Env
  | .n i, d, env => some (env.set i (.val d))
  | .t is, .tup ds, env => if ds.length = is.length then some ((is.zip ds).foldl (fun e p => e.set p.1 (.val p.2)) env) else none
  | _, _, _ => none
def wipeE (env : Env) : List Nat → Env
  | [] => env
  | i :: is => (wipeE env is).set i .no
def inR (i : Int) : Bool := decide (-(2 ^ 62) ≤ i) && decide (i < 2 ^ 62)
def rangeD (a b : Int) : List D := (List.range (b - a).toNat).map fun (k : Nat) => D.int (a + (k : Int))
/-- range with a step above 0 -/
def rangeN (a b k : Int) : Nat := if a < b then ((b - a - 1) / k + 1).toNat else 0
def rangeC (a b k : Int) : List D := (List.range (rangeN a b k)).map fun (j : Nat) => D.int (a + (j : Int) * k)
def asBool (r : Vl) : Res Bool := match r with
  | .val (.bl b) => .ok b
  | _ => .bad
def truthV (r : Vl) : Res Bool := match r with
  | .val d => truth d
  | _ => .bad
def asInt (r : Vl) : Res Int := match r with
  | .val (.int i) => .ok i
  | _ => .bad
/-- {x} in an f-string -/
def fmtV : Vl → Res Vl
  | .val (.str y) => if y.length ≤ SL then .ok (.val (.str y)) else .bad
  | .val (.int i) => if i.natAbs.log2 < 1920 then .ok (.val (.str (toString i))) else .bad
  | _ => .bad
def jsStep (acc : Str) (x : Vl) (k : Str → Res Vl) : Res Vl := match x with
  | .val (.str y) => if (acc ++ y).length ≤ SL then k (acc ++ y) else .bad
  | _ => .bad
def compLoop (turn : D → Res (Option D)) : List D → List D → Res Vl
  | [], acc => .ok (.own acc)
  | d :: ds, acc => match turn d with
    | .ok none => compLoop turn ds acc
    | .ok (some x) => if acc.length < SL then compLoop turn ds (acc ++ [x]) else .bad
    | _ => .bad

mutual
def ev (c : Ctx) : E → Env → Res Vl
  | .non, _ => .ok (.val .non)
  | .bl b, _ => .ok (.val (.bl b))
  | .int i, _ => .ok (.val (.int i))
  | .str x, _ => .ok (.val (.str x))
  | .v i, env => getv env i
  | .g _ d, _ => .ok (.val d)
  | .neg a, env => (ev c a env).bind fun x => (neg x.d).bind fun d => .ok (.val d)
  | .not a, env => (ev c a env).bind fun x => (truthV x).bind fun b => .ok (.val (.bl (!b)))
  | .and a b, env => (ev c a env).bind fun x => (asBool x).bind fun k => if k = true then ev c b env else .ok (.val (.bl false))
  | .or a b, env => (ev c a env).bind fun x => (asBool x).bind fun k => if k = true then .ok (.val (.bl true)) else ev c b env
  | .bin o a b, env => (pt c a env).bind fun x => (pt c b env).bind fun y => bin o x y
  | .cmp o a b, env => (po c a env).bind fun x => (po c b env).bind fun y => ofB (cmp o x y)
  | .ch2 o p a b d, env => (po c a env).bind fun x => (po c b env).bind fun y => (cmp o x y).bind fun k => if k = true then (po c d env).bind fun z => ofB (cmp p y z) else .ok (.val (.bl false))
  | .ch3 o p q a b d e, env => (po c a env).bind fun x => (po c b env).bind fun y => (cmp o x y).bind fun k => if k = true then (po c d env).bind fun z => (cmp p y z).bind fun l =>
      if l = true then (po c e env).bind fun w => ofB (cmp q z w) else .ok (.val (.bl false)) else .ok (.val (.bl false))
  | .tup es, env => (evs c es env).bind fun ds => if ds.length ≤ SL then .ok (.val (.tup ds)) else .bad
  | .lst es, env => (evs c es env).bind fun ds => if ds.length ≤ SL then .ok (.own ds) else .bad
  | .ix a i, env => (po c a env).bind fun x => (po c i env).bind fun y => (index x y).bind fun d => .ok (.val d)
  | .sl a lo hi, env => (po c a env).bind fun x => (part c lo env).bind fun l => (part c hi env).bind fun h => slice x l h
  | .call f es, env => (args c es env).bind fun ds => c.call f ds
  | .mth k f o es, env => (ev c o env).bind fun x => (match x.d with
    | .ins k' fs => if k' = k then (args c es env).bind fun ds => c.call f (.ins k fs :: ds) else .bad
    | _ => .bad)
  | .mk k es, env => (args c es env).bind fun ds => c.call k ds
  | .fld o k j, env => (ev c o env).bind fun x => (match x.d with
    | .ins k' fs => if k' = k then (match fs[j]? with
      | some d => .ok (.val d)
      | none => .bad) else .bad
    | _ => .bad)
  | .xf i k j, env => (match env[i]? with
    | some (.exc k' fs) => if k' = k then (match fs[j]? with
      | some d => .ok (.val d)
      | none => .bad) else .bad
    | _ => .bad)
  | .sf i k j, env => (match env[i]? with
    | some (.obj k' fs) => if k' = k then (match fs[j]? with
      | some d => .ok (.val d)
      | none => .bad) else .bad
    | _ => .bad)
  | .isx i, env => (match env[i]? with
    | some (.exc _ _) => .ok (.val (.bl true))
    | _ => .bad)
  | .b1 b a, env => (po c a env).bind fun x => b1 b x
  | .b2 b a d, env => (po c a env).bind fun x => (po c d env).bind fun y => b2 b x y
  | .isi a t, env => (po c a env).bind fun x => ofB (isTy x t)
  | .m1 m o a, env => (ev c o env).bind fun x => (match x.d with
    | .str z => (po c a env).bind fun y => m1 m z y
    | _ => .bad)
  | .comp tg it cs el own, env => (its c it env).bind fun ds => compLoop (fun d => match setT tg d (wipeE env own) with
    | none => .bad
    | some e1 => (tvs c cs e1).bind fun k => if k = true then (ev c el e1).bind fun x => .ok (some x.d) else .ok none) ds []
  | .fmt a, env => (ev c a env).bind fmtV
  | .js es, env => js c es PySem.Str.empty env
  | .fz a, env => (ev c a env).bind fun x => .ok (.val x.d)
  | .lidx o a, env => (po c o env).bind fun x => (match x with
    | .lst ds => (ev c a env).bind fun y => (match y with
      | .val (.int k) => (match intsOf ds with
        | some ns => if k ∈ ns then .ok (.val (.int (ns.idxOf k))) else .bad
        | none => .bad)
      | _ => .bad)
    | _ => .bad)
  | .sset o, env => (po c o env).bind ssetD
  | .lrg2 a b, env => (ev c a env).bind fun x => (ev c b env).bind fun y => (asInt x).bind fun i => (asInt y).bind fun j => if inR i && (inR j && decide (j - i ≤ SL)) then .ok (.own (rangeD i j)) else .bad
  | .lrg a, env => (ev c a env).bind fun x => (asInt x).bind fun i => if inR i && decide (i ≤ SL) then .ok (.own (rangeD 0 i)) else .bad
/-- an f-string's parts, one behind the other -/
def js (c : Ctx) : List E → Str → Env → Res Vl
  | [], acc, _ => .ok (.val (.str acc))
  | e :: es, acc, env => (ev c e env).bind fun x => jsStep acc x fun y => js c es y env
def po (c : Ctx) : O → Env → Res D
  | .s i, env => peek env i
  | .e e, env => (ev c e env).bind fun x => .ok x.d
def pt (c : Ctx) : O → Env → Res D
  | .s i, env => peekT env i
  | .e e, env => (ev c e env).bind fun x => .ok x.d
def evs (c : Ctx) : List E → Env → Res (List D)
  | [], _ => .ok []
  | e :: es, env => (ev c e env).bind fun x => (evs c es env).bind fun ds => .ok (x.d :: ds)
def arg (c : Ctx) : A → Env → Res D
  | .p o, env => po c o env
  | .e e, env => (ev c e env).bind fun x => .ok x.d
def args (c : Ctx) : List A → Env → Res (List D)
  | [], _ => .ok []
  | e :: es, env => (arg c e env).bind fun x => (args c es env).bind fun ds => .ok (x :: ds)
def part (c : Ctx) : Option E → Env → Res (Option Int)
  | none, _ => .ok none
  | some e, env => (ev c e env).bind fun x => (asInt x).bind fun i => .ok (some i)
def tv (c : Ctx) : T → Env → Res Bool
  | .v o, env => (po c o env).bind truth
  | .not a, env => (tv c a env).bind fun k => .ok (!k)
  | .and a b, env => (tv c a env).bind fun k => if k = true then tv c b env else .ok false
  | .or a b, env => (tv c a env).bind fun k => if k = true then .ok true else tv c b env
  | .cmp o a b, env => (po c a env).bind fun x => (po c b env).bind fun y => cmp o x y
  | .ch2 o p a b d, env => (po c a env).bind fun x => (po c b env).bind fun y => (cmp o x y).bind fun k => if k = true then (po c d env).bind fun z => cmp p y z else .ok false
  | .ch3 o p q a b d e, env => (po c a env).bind fun x => (po c b env).bind fun y => (cmp o x y).bind fun k => if k = true then (po c d env).bind fun z => (cmp p y z).bind fun l =>
      if l = true then (po c e env).bind fun w => cmp q z w else .ok false else .ok false
def tvs (c : Ctx) : List T → Env → Res Bool
  | [], _ => .ok true
  | [t], env => tv c t env
  | _, _ => .bad
def its (c : Ctx) : It → Env → Res (List D)
  | .r1 a, env => (ev c a env).bind fun x => (asInt x).bind fun i => if inR i = true then .ok (rangeD 0 i) else .bad
  | .r2 a b, env => (ev c a env).bind fun x => (asInt x).bind fun i => (ev c b env).bind fun y => (asInt y).bind fun j => if inR i && inR j then .ok (rangeD i j) else .bad
  | .sq o, env => (po c o env).bind fun x => (match walkOf x with
    | some ds => .ok ds
    | none => .bad)
  | .rev o, env => (po c o env).bind fun x => (match x with
    | .lst ds => .ok ds.reverse
    | _ => .bad)
  | .r3 a b k, env => (ev c a env).bind fun x => (asInt x).bind fun i => (ev c b env).bind fun y => (asInt y).bind fun j => (ev c k env).bind fun z => (asInt z).bind fun m => if inR i && (inR j && decide (0 < m ∧ m < 1073741824)) then .ok (rangeC i j m) else .bad
  | .revr a b, env => (ev c a env).bind fun x => (asInt x).bind fun i => (ev c b env).bind fun y => (asInt y).bind fun j => if inR i && inR j then .ok (rangeD i j).reverse else .bad
end

/-- what a for walks: a list of one's own is let stand still first -/
def itsF (c : Ctx) (it : It) (env : Env) : Res (List D) := match it with
  | .sq (.s i) => (match env[i]? with
    | some (.val d) => (match walkOf d with
      | some ds => .ok ds
      | none => .bad)
    | some (.pk ds) => .ok ds
    | _ => .bad)
  | .rev (.s i) => (match env[i]? with
    | some (.val (.lst ds)) => .ok ds.reverse
    | some (.pk ds) => .ok ds.reverse
    | _ => .bad)
  | it => its c it env
inductive Out where
  | nx (e : Env) | ret (r : Vl) | ct (e : Env) | err (c : Nat) (fs : List D) (e : Env) | bad | rtd (o : Ow)
def frz1 (env : Env) (i : Nat) : Env := match env[i]? with
  | some (.own ds) => env.set i (.val (.lst ds))
  | some (.dp o) => env.set i (.val o.d)
  | _ => env
def frz (fr : List Nat) (env : Env) : Env := fr.foldl frz1 env
/-- then let some lists stand still -/
def thO (l : List Nat) : Out → Out
  | .nx e => .nx (frz l e)
  | o => o
/-- go on with a value that was found while some lists stood still -/
def toT {α : Type} (r : Res α) (env : Env) (f : α → Out) : Out := match r with
  | .ok a => f a
  | .err c fs => if fs.all flatD = true then .err c fs env else .bad
  | .bad => .bad
@[simp] theorem toT_ok {α : Type} (a : α) (env : Env) (f : α → Out) : toT (.ok a) env f = f a := rfl
def flatVl : Vl → Bool
  | .val d => flatD d
  | _ => false
/-! parts of what is one's own -/
def vlO : Vl → Ow
  | .val d => .dat d
  | .own ds => .lst (ds.map .dat)
def rtO : Rt → Ow
  | .v x => vlO x
  | .dp o => o
def allDat : List Ow → Option (List D)
  | [] => some []
  | .dat d :: r => (allDat r).map (d :: ·)
  | _ :: _ => none
def owSl : Ow → Sl
  | .dat d => .val d
  | o => .dp o
mutual
def oev (c : Ctx) : OE → Env → Res Ow
  | .e x, env => (ev c x env).bind fun r => .ok (vlO r)
  | .tup es, env => (oevs c es env).bind fun os => if os.length ≤ SL then .ok (.tup os) else .bad
  | .lst es, env => (oevs c es env).bind fun os => if os.length ≤ SL then .ok (.lst os) else .bad
  | .s i, env => (match env[i]? with
    | some (.val d) => .ok (.dat d)
    | some (.own ds) => .ok (.lst (ds.map .dat))
    | some (.dp o) => .ok o
    | _ => .bad)
  | .call f es, env => (args c es env).bind fun ds => (c.callx f ds).bind fun r => .ok (rtO r)
def oevs (c : Ctx) : List OE → Env → Res (List Ow)
  | [], _ => .ok []
  | e :: es, env => (oev c e env).bind fun x => (oevs c es env).bind fun os => .ok (x :: os)
end
/-! slots that are given away -/
mutual
def oeSl : OE → List Nat
  | .tup es => oesSl es
  | .lst es => oesSl es
  | .s i => [i]
  | _ => []
def oesSl : List OE → List Nat
  | [] => []
  | e :: es => oeSl e ++ oesSl es
end
/-- a part by its number -/
def stepO : Ow → Int → Option Ow
  | .lst xs, i => (ixNat xs.length i).bind (xs[·]?)
  | .tup xs, i => (ixNat xs.length i).bind (xs[·]?)
  | .dat _, _ => none
def nav : Ow → List Int → Option Ow
  | o, [] => some o
  | o, i :: is => (stepO o i).bind fun x => nav x is
/-- another part in its stead -/
def putO : Ow → List Int → Ow → Option Ow
  | _, [], y => some y
  | .lst xs, i :: is, y => (match ixNat xs.length i with
    | some k => (match xs[k]? with
      | some x => (putO x is y).map fun z => .lst (xs.set k z)
      | none => none)
    | none => none)
  | .tup xs, i :: is, y => (match ixNat xs.length i with
    | some k => (match xs[k]? with
      | some x => (putO x is y).map fun z => .tup (xs.set k z)
      | none => none)
    | none => none)
  | .dat _, _ :: _, _ => none
def keyI (env : Env) : Ky → Option Int
  | .c i => some i
  | .v j => (match env[j]? with
    | some (.val (.int z)) => some z
    | _ => none)
def keysI (env : Env) : List Ky → Option (List Int)
  | [] => some []
  | k :: ks => (keyI env k).bind fun i => (keysI env ks).bind fun is => some (i :: is)
def setOs : List Nat → List Ow → Env → Option Env
  | [], [], env => some env
  | i :: is, o :: os, env => setOs is os (env.set i (owSl o))
  | _, _, _ => none
/-- go on with a value -/
def Res.to {α : Type} (r : Res α) (env : Env) (f : α → Out) : Out := match r with
  | .ok a => f a
  | .err c fs => .err c fs env
  | .bad => .bad
@[simp] theorem Res.to_ok {α : Type} (a : α) (env : Env) (f : α → Out) : (Res.ok a).to env f = f a := rfl
@[simp] theorem Res.to_err {α : Type} (c : Nat) (fs : List D) (env : Env) (f : α → Out) : (Res.err c fs : Res α).to env f = .err c fs env := rfl
@[simp] theorem Res.to_bad {α : Type} (env : Env) (f : α → Out) : (Res.bad : Res α).to env f = .bad := rfl
def Out.seq (o : Out) (f : Env → Out) : Out := match o with
  | .nx e => f e
  | o => o
@[simp] theorem Out.seq_nx (e : Env) (f : Env → Out) : (Out.nx e).seq f = f e := rfl
@[simp] theorem Out.seq_ret (r : Vl) (f : Env → Out) : (Out.ret r).seq f = .ret r := rfl
@[simp] theorem Out.seq_ct (e : Env) (f : Env → Out) : (Out.ct e).seq f = .ct e := rfl
@[simp] theorem Out.seq_err (c : Nat) (fs : List D) (e : Env) (f : Env → Out) : (Out.err c fs e).seq f = .err c fs e := rfl
@[simp] theorem Out.seq_rtd (o : Ow) (f : Env → Out) : (Out.rtd o).seq f = .rtd o := rfl
@[simp] theorem Out.seq_bad (f : Env → Out) : Out.bad.seq f = .bad := rfl
def forLoop (tg : Tg) (body : Env → Out) : List D → Env → Out
  | [], env => .nx env
  | d :: ds, env => match setT tg d env with
    | none => .bad
    | some e1 => match body e1 with
      | .nx e2 => forLoop tg body ds e2
      | .ct e2 => forLoop tg body ds e2
      | o => o
def whlLoop (test : Env → Res Bool) (body : Env → Out) (fr : List Nat) : Nat → Env → Out
  | 0, _ => .bad
  | n + 1, env => (test (frz fr env)).to (frz fr env) fun k => if k = true then (match body (frz fr env) with
    | .nx e2 => whlLoop test body fr n e2
    | .ct e2 => whlLoop test body fr n e2
    | o => o) else .nx (frz fr env)
/-- an exception's name comes and goes -/
def clr1 : Sl → Sl
  | .exc _ _ => .no
  | s => s
def clr (env : Env) : Env := env.map clr1
def bindX (n : Option Nat) (k : Nat) (fs : List D) (env : Env) : Env := match n with
  | none => env
  | some i => env.set i (.exc k fs)
def dropX (n : Option Nat) (env : Env) : Env := match n with
  | none => clr env
  | some i => clr (env.set i .no)
/-- the class of an error is that of a clause, or the clause names the base -/
def exm (c h : Nat) : Bool := h == c || h == 0
mutual
def exs (c : Ctx) : S → Env → Out
  | .asg fr i e, env => (ev c e (frz fr env)).to (frz fr env) fun x => .nx ((frz fr env).set i x.sl)
  | .asgt fr is e, env => (ev c e (frz fr env)).to (frz fr env) fun x => (match setT (.t is) x.d (frz fr env) with
    | some e1 => .nx e1
    | none => .bad)
  | .aug i o e, env => (match env[i]? with
    | some (.val x) => (ev c e env).to env fun y => (match x, y with
      | .int a, .val (.int b) => (match o with
        | .add => .nx (env.set i (.val (.int (a + b))))
        | .sub => .nx (env.set i (.val (.int (a - b))))
        | _ => .bad)
      | _, _ => .bad)
    | _ => .bad)
  | .app fr i e, env => (match (frz fr env)[i]? with
    | some (.own ds) => (ev c e (frz fr env)).to (frz fr env) fun x => if ds.length < SL then .nx ((frz fr env).set i (.own (ds ++ [x.d]))) else .bad
    | _ => .bad)
  | .seti fr i k e, env => (match (frz fr env)[i]? with
    | some (.own ds) => (ev c e (frz fr env)).to (frz fr env) fun x => (ev c k (frz fr env)).to (frz fr env) fun y => (match y with
      | .val (.int z) => (match ixNat ds.length z with
        | some j => .nx ((frz fr env).set i (.own (ds.set j x.d)))
        | none => .bad)
      | _ => .bad)
    | _ => .bad)
  | .augi i k o e, env => (match env[i]? with
    | some (.own ds) => (ev c k env).to env fun y => (match y with
      | .val (.int z) => (match ixNat ds.length z with
        | some j => (match ds[j]? with
          | some (.int a) => (ev c e env).to env fun x => (match x with
            | .val (.int b) => (match o with
              | .add => .nx (env.set i (.own (ds.set j (.int (a + b)))))
              | .sub => .nx (env.set i (.own (ds.set j (.int (a - b)))))
              | _ => .bad)
            | _ => .bad)
          | _ => .bad)
        | none => .bad)
      | _ => .bad)
    | _ => .bad)
  | .setf fr k j e, env => (ev c e (frz fr env)).to (frz fr env) fun x => (match (frz fr env).head? with
    | some (.obj k' ds) => if k' = k ∧ j = ds.length ∧ j < 100 then .nx ((frz fr env).set 0 (.obj k (ds ++ [x.d]))) else .bad
    | _ => .bad)
  | .ite fr t a b, env => (tv c t (frz fr env)).to (frz fr env) fun k => if k = true then exss c a (frz fr env) else exss c b (frz fr env)
  | .whl fr t b, env => whlLoop (tv c t) (exss c b) fr c.fuel env
  | .forl fr tg it b, env => (itsF c it (frz fr env)).to (frz fr env) fun ds => forLoop tg (exss c b) ds (frz fr env)
  | .ret fr e, env => (ev c e (frz fr env)).to (frz fr env) fun x => .ret x
  | .retn, _ => .ret (.val .non)
  | .reto i, env => (match env[i]? with
    | some (.own ds) => .ret (.own ds)
    | some (.val d) => .ret (.val d)
    | _ => .bad)
  | .ex fr e, env => (ev c e (frz fr env)).to (frz fr env) fun _ => .nx (frz fr env)
  | .pass, env => .nx env
  | .cont, env => .ct env
  | .rais k es, env => (evs c es env).to env fun ds => .err k ds env
  | .try b hs, env => (match exss c b env with
    | .err k fs e1 => hds c hs k fs e1
    | o => o)
  | .asgo fr i x, env => if oeSl x = [] then (oev c x (frz fr env)).to (frz fr env) fun o => .nx ((frz fr env).set i (owSl o)) else .bad
  | .asgot fr is x, env => if oeSl x = [] then (oev c x (frz fr env)).to (frz fr env) fun o => (match o with
    | .tup os => (match setOs is os (frz fr env) with
      | some e1 => .nx e1
      | none => .bad)
    | _ => .bad) else .bad
  | .retd fr x, env => if (oeSl x).Nodup then (oev c x (frz fr env)).to (frz fr env) fun o => .rtd o else .bad
  | .appd fr tf i ks e, env => (match (frz fr env)[i]?, keysI (frz fr env) ks with
    | some (.dp o), some is => (match nav o is with
      | some (.lst xs) => toT (ev c e (frz tf (frz fr env))) (frz fr env) fun x => (match x with
        | .val d => if flatD d = true ∧ xs.length < SL then (match putO o is (.lst (xs ++ [.dat d])) with
          | some o' => .nx ((frz fr env).set i (.dp o'))
          | none => .bad) else .bad
        | _ => .bad)
      | _ => .bad)
    | _, _ => .bad)
  | .setd fr tf i ks k e, env => (match (frz fr env)[i]?, keysI (frz fr env) ks, keyI (frz fr env) k with
    | some (.dp o), some is, some z => (match nav o is with
      | some (.lst xs) => toT (ev c e (frz tf (frz fr env))) (frz fr env) fun x => (match x with
        | .val d => if flatD d = true then (match ixNat xs.length z with
          | some j => (match putO o is (.lst (xs.set j (.dat d))) with
            | some o' => .nx ((frz fr env).set i (.dp o'))
            | none => .bad)
          | none => .bad) else .bad
        | _ => .bad)
      | _ => .bad)
    | _, _, _ => .bad)
  | .asgT fr tf i e, env => toT (ev c e (frz tf (frz fr env))) (frz fr env) fun x => (match x with
    | .val d => if flatD d = true then .nx ((frz fr env).set i (.val d)) else .bad
    | .own ds => if ds.all flatD = true then .nx ((frz fr env).set i (.own ds)) else .bad)
  | .iteT fr tf t a b, env => toT (tv c t (frz tf (frz fr env))) (frz fr env) fun k => if k = true then exss c a (frz fr env) else exss c b (frz fr env)
  | .exT fr tf e, env => toT (ev c e (frz tf (frz fr env))) (frz fr env) fun _ => .nx (frz fr env)
  | .retT fr tf e, env => toT (ev c e (frz tf (frz fr env))) (frz fr env) fun x => (match x with
    | .val d => if flatD d = true then .ret (.val d) else .bad
    | _ => .bad)
  | .th s l, env => thO l (exs c s env)
  | .fz l, env => .nx (frz l env)
  | .apop fr i j, env => (match (frz fr env)[i]?, (frz fr env)[j]? with
    | some (.own ds), some (.own es) => (match es.getLast? with
      | some d => if ds.length < SL then .nx (((frz fr env).set j (.own es.dropLast)).set i (.own (ds ++ [d]))) else .bad
      | none => .bad)
    | _, _ => .bad)
def exss (c : Ctx) : List S → Env → Out
  | [], env => .nx env
  | s :: r, env => (exs c s env).seq (exss c r)
def hds (c : Ctx) : List (Nat × Option Nat × List S) → Nat → List D → Env → Out
  | [], k, fs, env => .err k fs env
  | (h, n, b) :: r, k, fs, env => if exm k h = true then (match exss c b (bindX n k fs env) with
      | .nx e1 => .nx (dropX n e1)
      | .ct e1 => .ct (dropX n e1)
      | .ret x => .ret x
      | .rtd o => .rtd o
      | _ => .bad)
    else hds c r k fs env
end

/-- a def: how many parameters, which of them are only looked at, how many slots, the body; of an __init__ the class -/
structure Fn where
  pm : List Bool
  ns : Nat
  ini : Option Nat
  body : List S
def startE : List Bool → List D → List Sl
  | b :: bs, d :: ds => (match b, d with
    | true, .lst xs => Sl.pk xs
    | _, _ => Sl.val d) :: startE bs ds
  | _, _ => []
def runFnx (f : Fn) (c : Ctx) (ds : List D) : Res Rt :=
  if ds.length = f.pm.length then
    (match f.ini with
    | none => (match exss c f.body (startE f.pm ds ++ List.replicate (f.ns - f.pm.length) .no) with
      | .nx _ => .ok (.v (.val .non))
      | .ret r => .ok (.v r)
      | .rtd o => .ok (.dp o)
      | .err k fs _ => .err k fs
      | _ => .bad)
    | some k => (match exss c f.body (.obj k [] :: startE f.pm ds ++ List.replicate (f.ns - f.pm.length - 1) .no) with
      | .nx e => (match e.head? with
        | some (.obj _ xs) => .ok (.v (.val (.ins k xs)))
        | _ => .bad)
      | .err k fs _ => .err k fs
      | _ => .bad))
  else .bad
def runFn (f : Fn) (c : Ctx) (ds : List D) : Res Vl := (runFnx f c ds).bind fun r => .ok r.fl
/-- the defs by number, to a depth of calls -/
def semx (tbl : List Fn) (F : Nat) : Nat → Nat → List D → Res Rt
  | 0, _, _ => .bad
  | k + 1, f, ds => match tbl[f]? with
    | none => .bad
    | some fd => runFnx fd ⟨semx tbl F k, F⟩ ds
def sem (tbl : List Fn) (F k f : Nat) (ds : List D) : Res Vl := (semx tbl F k f ds).bind fun r => .ok r.fl
end PL

set_option linter.all false
set_option Elab.async false
set_option maxRecDepth 100000
set_option maxHeartbeats 2000000
/-! Soundness of the pure layer over HandS, part 1: how data lie in the heap; readings; expressions. -/
namespace PL
open PySem PySem.Spec PyProof.Rows L2
abbrev St := L2.St

/-- where a def stands: a global; a class's method; a class's __init__ -/
inductive At where
  | glo | meth (c : Nat) | ini (c : Nat)
  deriving DecidableEq
structure FnI where
  name : Str
  at_ : At
  ps : List Str
  N : List Str
  fn : Fn
  hot : Bool
structure ClI where
  name : Str
  fields : List Str
  ini : Nat
structure ExI where
  name : Str
  fields : List Str
  ini : Nat
structure Tab where
  fns : List FnI
  cls : List ClI
  exs : List ExI
  glb : List (Str × Sum Int Str)
structure Par where
  K : PySem.W.Frag
  T : Tab
  ca : Nat → Addr
  xa : Nat → Addr

/-- how an instance's attributes lie: by the class's fields in their order, so far -/
structure InsOk (fields : List Str) (fs : List (Str × V)) (vs : List V) : Prop where
  at_ : ∀ (j : Nat) n v, fields[j]? = some n → vs[j]? = some v → fs.lookup n = some v
  no : ∀ m, m ∉ fields → fs.lookup m = none
  len : fs.length ≤ vs.length

mutual
inductive Rep (P : Par) (G : Hp) : V → D → Prop
  | non : Rep P G .non .non
  | bl (b : Bool) : Rep P G (.bl b) (.bl b)
  | int (i : Int) : Rep P G (.int i) (.int i)
  | str (x : Str) : Rep P G (.str x) (.str x)
  | tup {a : Addr} {vs : List V} {ds : List D} (h : G a = some (.tup vs)) (r : Reps P G vs ds) : Rep P G (.ref a) (.tup ds)
  | lst {a : Addr} {vs : List V} {ds : List D} (h : G a = some (.lst vs)) (r : Reps P G vs ds) : Rep P G (.ref a) (.lst ds)
  | ins {a dx : Addr} {c : Nat} {ci : ClI} {fs : List (Str × V)} {vs : List V} {ds : List D} (h : G a = some (.ins (P.ca c) dx fs)) (hc : P.T.cls[c]? = some ci) (hi : InsOk ci.fields fs vs) (r : Reps P G vs ds) : Rep P G (.ref a) (.ins c ds)
inductive Reps (P : Par) (G : Hp) : List V → List D → Prop
  | nil : Reps P G [] []
  | cons {v : V} {vs : List V} {d : D} {ds : List D} (h : Rep P G v d) (r : Reps P G vs ds) : Reps P G (v :: vs) (d :: ds)
end
theorem Same.seqT {K : PySem.W.Frag} {H H' : Hp} {a : Addr} {xs : List V} (e : Same H H') (h : SqT K H a xs) : SqT K H' a xs := by
  rcases h with (h | ⟨o, h⟩) | h
  · exact .inl (.inl (e _ _ h))
  · exact .inl (.inr ⟨o, e _ _ h⟩)
  · exact .inr h
mutual
theorem Rep.mono {P : Par} {G G' : Hp} (s : Same G G') : ∀ {v : V} {d : D}, Rep P G v d → Rep P G' v d
  | _, _, .non => .non
  | _, _, .bl b => .bl b
  | _, _, .int i => .int i
  | _, _, .str x => .str x
  | _, _, .tup h r => .tup (s _ _ h) (Reps.mono s r)
  | _, _, .lst h r => .lst (s _ _ h) (Reps.mono s r)
  | _, _, .ins h hc hi r => .ins (s _ _ h) hc hi (Reps.mono s r)
theorem Reps.mono {P : Par} {G G' : Hp} (s : Same G G') : ∀ {vs : List V} {ds : List D}, Reps P G vs ds → Reps P G' vs ds
  | _, _, .nil => .nil
  | _, _, .cons h r => .cons (Rep.mono s h) (Reps.mono s r)
end
theorem Reps.length {P : Par} {G : Hp} : ∀ {vs : List V} {ds : List D}, Reps P G vs ds → vs.length = ds.length
  | _, _, .nil => rfl
  | _, _, .cons _ r => congrArg (· + 1) (Reps.length r)
theorem Reps.get {P : Par} {G : Hp} : ∀ {vs : List V} {ds : List D} {i : Nat} {d : D}, Reps P G vs ds → ds[i]? = some d → ∃ v, vs[i]? = some v ∧ Rep P G v d
  | _, _, _, _, .nil, e => by simp at e
  | _, _, 0, _, .cons h _, e => by simp at e; subst e; exact ⟨_, rfl, h⟩
  | _, _, i + 1, d, .cons _ r, e => by
    obtain ⟨v, h1, h2⟩ := Reps.get (i := i) (d := d) r (by simpa using e)
    exact ⟨v, by simpa using h1, h2⟩
theorem Reps.getV {P : Par} {G : Hp} : ∀ {vs : List V} {ds : List D} {i : Nat} {v : V}, Reps P G vs ds → vs[i]? = some v → ∃ d, ds[i]? = some d ∧ Rep P G v d
  | _, _, _, _, .nil, e => by simp at e
  | _, _, 0, _, .cons h _, e => by simp at e; subst e; exact ⟨_, rfl, h⟩
  | _, _, i + 1, d, .cons _ r, e => by
    obtain ⟨v, h1, h2⟩ := Reps.getV (i := i) (v := d) r (by simpa using e)
    exact ⟨v, by simpa using h1, h2⟩
theorem Reps.append {P : Par} {G : Hp} : ∀ {vs ws : List V} {ds es : List D}, Reps P G vs ds → Reps P G ws es → Reps P G (vs ++ ws) (ds ++ es)
  | _, _, _, _, .nil, s => s
  | _, _, _, _, .cons h r, s => .cons h (Reps.append r s)
theorem Reps.take {P : Par} {G : Hp} : ∀ {vs : List V} {ds : List D} (n : Nat), Reps P G vs ds → Reps P G (vs.take n) (ds.take n)
  | _, _, 0, _ => .nil
  | _, _, _ + 1, .nil => .nil
  | _, _, n + 1, .cons h r => .cons h (Reps.take n r)
theorem Reps.drop {P : Par} {G : Hp} : ∀ {vs : List V} {ds : List D} (n : Nat), Reps P G vs ds → Reps P G (vs.drop n) (ds.drop n)
  | _, _, 0, r => r
  | _, _, _ + 1, .nil => .nil
  | _, _, n + 1, .cons _ r => Reps.drop n r
theorem Reps.set {P : Par} {G : Hp} {v : V} {d : D} (h : Rep P G v d) : ∀ {vs : List V} {ds : List D} (i : Nat), Reps P G vs ds → Reps P G (vs.set i v) (ds.set i d)
  | _, _, _, .nil => .nil
  | _, _, 0, .cons _ r => .cons h r
  | _, _, i + 1, .cons q r => .cons q (Reps.set h i r)
theorem Reps.rep {P : Par} {G : Hp} {vs : List V} {ds : List D} (h : Reps P G vs ds) : ∀ k : Nat, Reps P G (List.replicate k vs).flatten (List.replicate k ds).flatten
  | 0 => .nil
  | k + 1 => by
    rw [List.replicate_succ, List.replicate_succ, List.flatten_cons, List.flatten_cons]
    exact h.append (Reps.rep h k)
theorem Reps.reverse {P : Par} {G : Hp} : ∀ {vs : List V} {ds : List D}, Reps P G vs ds → Reps P G vs.reverse ds.reverse
  | _, _, .nil => .nil
  | _, _, .cons h r => by
    rw [List.reverse_cons, List.reverse_cons]
    exact (Reps.reverse r).append (.cons h .nil)
theorem Reps.ints {P : Par} {G : Hp} : ∀ (ns : List Int), Reps P G (ns.map V.int) (ns.map D.int)
  | [] => .nil
  | n :: ns => .cons (.int n) (Reps.ints ns)
theorem Reps.strs {P : Par} {G : Hp} : ∀ (ns : List Str), Reps P G (ns.map V.str) (ns.map D.str)
  | [] => .nil
  | n :: ns => .cons (.str n) (Reps.strs ns)
theorem Reps.intsOf {P : Par} {G : Hp} : ∀ {vs : List V} {ds : List D} {ns : List Int}, Reps P G vs ds → PL.intsOf ds = some ns → vs = ns.map V.int ∧ ds = ns.map D.int
  | _, _, _, .nil, e => by
    simp only [PL.intsOf, Option.some.injEq] at e
    subst e
    exact ⟨rfl, rfl⟩
  | _, _, ns, .cons (d := d) (ds := ds) h r, e => by
    cases h with
    | int i =>
      simp only [PL.intsOf] at e
      cases q : PL.intsOf ds with
      | none => rw [q] at e; simp at e
      | some ms =>
        rw [q] at e
        simp only [Option.map_some, Option.some.injEq] at e
        subst e
        obtain ⟨e1, e2⟩ := Reps.intsOf r q
        exact ⟨by rw [e1]; rfl, by rw [e2]; rfl⟩
    | _ => simp [PL.intsOf] at e
theorem Reps.strsOf {P : Par} {G : Hp} : ∀ {vs : List V} {ds : List D} {ns : List Str}, Reps P G vs ds → PL.strsOf ds = some ns → vs = ns.map V.str ∧ ds = ns.map D.str
  | _, _, _, .nil, e => by
    simp only [PL.strsOf, Option.some.injEq] at e
    subst e
    exact ⟨rfl, rfl⟩
  | _, _, ns, .cons (d := d) (ds := ds) h r, e => by
    cases h with
    | str i =>
      simp only [PL.strsOf] at e
      cases q : PL.strsOf ds with
      | none => rw [q] at e; simp at e
      | some ms =>
        rw [q] at e
        simp only [Option.map_some, Option.some.injEq] at e
        subst e
        obtain ⟨e1, e2⟩ := Reps.strsOf r q
        exact ⟨by rw [e1]; rfl, by rw [e2]; rfl⟩
    | _ => simp [PL.strsOf] at e

/-! ### steps -/
/-- from (G, H) to (G', H'): nothing that was tracked changes, G (what stands still) grows by new objects alone -/
structure Step (G H G' H' : Hp) : Prop where
  hh : Same H H'
  gg : Same G G'
  gh : Same G' H'
  nw : ∀ a, H a ≠ none → G' a = G a
theorem Step.refl {G H : Hp} (s : Same G H) : Step G H G H := ⟨Same.refl _, Same.refl _, s, fun _ _ => rfl⟩
theorem _root_.L2.Same.ne {H H' : Hp} (s : Same H H') {a : Addr} (h : H a ≠ none) : H' a ≠ none := by
  cases q : H a with
  | none => exact absurd q h
  | some o => rw [s a o q]; simp
theorem Step.trans {G H G1 H1 G2 H2 : Hp} (a : Step G H G1 H1) (b : Step G1 H1 G2 H2) : Step G H G2 H2 :=
  ⟨a.hh.trans b.hh, a.gg.trans b.gg, b.gh, fun c hc => (b.nw c (a.hh.ne hc)).trans (a.nw c hc)⟩
theorem same_upd {H : Hp} {p : Addr} {o : HO} (h : H p = none) : Same H (upd H p o) := fun b u e => by
  rw [upd_ne (ne_of_none e h)]
  exact e
/-- a new object, standing still -/
theorem Step.new {G H : Hp} {p : Addr} {o : HO} (s : Same G H) (h : H p = none) : Step G H (upd G p o) (upd H p o) := by
  have hg : G p = none := s.free h
  refine ⟨same_upd h, same_upd hg, fun b u e => ?_, fun a ha => ?_⟩
  · by_cases q : b = p
    · subst q; rw [upd_same] at e ⊢; exact e
    · rw [upd_ne q] at e ⊢; exact s _ _ e
  · have q : a ≠ p := fun z => ha (by rw [z]; exact h)
    exact upd_ne q
/-- a new object, ours -/
theorem Step.mine {G H : Hp} {p : Addr} {o : HO} (s : Same G H) (h : H p = none) : Step G H G (upd H p o) :=
  ⟨same_upd h, Same.refl _, s.trans (same_upd h), fun _ _ => rfl⟩
/-- an object that came since is let stand still -/
theorem Step.still {G H G1 H1 : Hp} {p : Addr} {o : HO} (a : Step G H G1 H1) (h : H p = none) (h1 : H1 p = some o) (g : G1 p = none) : Step G H (upd G1 p o) H1 := by
  refine ⟨a.hh, a.gg.trans (same_upd g), fun b u e => ?_, fun c hc => ?_⟩
  · by_cases q : b = p
    · subst q; rw [upd_same] at e; rw [h1]; exact e
    · rw [upd_ne q] at e; exact a.gh _ _ e
  · have q : c ≠ p := fun z => hc (by rw [z]; exact h)
    rw [upd_ne q]
    exact a.nw c hc

/-- a value's data, from the start H on -/
def RV (P : Par) (H G' H' : Hp) (v : V) (r : Vl) : Prop := match r with
  | .val d => Rep P G' v d
  | .own ds => ∃ p vs, v = .ref p ∧ H' p = some (.lst vs) ∧ G' p = none ∧ H p = none ∧ Reps P G' vs ds
/-- a value that is looked at: a list may be anybody's -/
def RP (P : Par) (_H G' H' : Hp) (v : V) (d : D) : Prop := Rep P G' v d ∨ ∃ p vs ds, v = .ref p ∧ d = .lst ds ∧ SqL P.K H' p vs ∧ Reps P G' vs ds
/-- .. and is tracked -/
def RQ (P : Par) (_H G' H' : Hp) (v : V) (d : D) : Prop := Rep P G' v d ∨ ∃ p vs ds, v = .ref p ∧ d = .lst ds ∧ H' p = some (.lst vs) ∧ Reps P G' vs ds
/-- data alone -/
def RD (P : Par) (_H G' _H' : Hp) (v : V) (d : D) : Prop := Rep P G' v d
def RDs (P : Par) (_H G' _H' : Hp) (vs : List V) (ds : List D) : Prop := Reps P G' vs ds
def RB (_H _G' _H' : Hp) (b : Bool) (k : Bool) : Prop := b = k
def RO (_H _G' _H' : Hp) (b : Option Int) (k : Option Int) : Prop := b = k
theorem RV.toP {P : Par} {H G' H' : Hp} {v : V} {r : Vl} (h : RV P H G' H' v r) : RP P H G' H' v r.d := by
  cases r with
  | val d => exact .inl h
  | own ds =>
    obtain ⟨p, vs, e, h1, _, _, r⟩ := h
    exact .inr ⟨p, vs, ds, e, rfl, SqL.of h1, r⟩
theorem RV.toQ {P : Par} {H G' H' : Hp} {v : V} {r : Vl} (h : RV P H G' H' v r) : RQ P H G' H' v r.d := by
  cases r with
  | val d => exact .inl h
  | own ds =>
    obtain ⟨p, vs, e, h1, _, _, r⟩ := h
    exact .inr ⟨p, vs, ds, e, rfl, h1, r⟩
theorem RQ.toP {P : Par} {H G' H' : Hp} {v : V} {d : D} (h : RQ P H G' H' v d) : RP P H G' H' v d := by
  rcases h with h | ⟨p, vs, ds, e1, e2, h1, r⟩
  · exact .inl h
  · exact .inr ⟨p, vs, ds, e1, e2, SqL.of h1, r⟩
theorem RP.step {P : Par} {H0 G H G' H' : Hp} {v : V} {d : D} (h : RP P H0 G H v d) (s : Step G H G' H') : RP P H0 G' H' v d := by
  rcases h with h | ⟨p, vs, ds, e1, e2, h1, r⟩
  · exact .inl (h.mono s.gg)
  · exact .inr ⟨p, vs, ds, e1, e2, s.hh.seq h1, r.mono s.gg⟩
theorem RQ.step {P : Par} {H0 G H G' H' : Hp} {v : V} {d : D} (h : RQ P H0 G H v d) (s : Step G H G' H') : RQ P H0 G' H' v d := by
  rcases h with h | ⟨p, vs, ds, e1, e2, h1, r⟩
  · exact .inl (h.mono s.gg)
  · exact .inr ⟨p, vs, ds, e1, e2, s.hh _ _ h1, r.mono s.gg⟩
/-- an own list is let stand still -/
theorem RV.still {P : Par} {G H G' H' : Hp} {v : V} {r : Vl} (h : RV P H G' H' v r) (s : Step G H G' H') : ∃ G2, Step G H G2 H' ∧ Same G' G2 ∧ Rep P G2 v r.d := by
  cases r with
  | val d => exact ⟨G', s, Same.refl _, h⟩
  | own ds =>
    obtain ⟨p, vs, e, h1, h2, h3, r⟩ := h
    subst e
    exact ⟨upd G' p (.lst vs), s.still h3 h1 h2, same_upd h2, .lst upd_same (r.mono (same_upd h2))⟩

/-! ### lists and tuples that are held alone, one within another -/
mutual
/-- where they lie -/
def foot (H : Hp) : Ow → V → List Addr
  | .dat _, _ => []
  | .lst xs, v => (match v with
    | .ref a => a :: (match H a with
      | some (.lst vs) => foots H xs vs
      | _ => [])
    | _ => [])
  | .tup xs, v => (match v with
    | .ref a => a :: (match H a with
      | some (.tup vs) => foots H xs vs
      | _ => [])
    | _ => [])
def foots (H : Hp) : List Ow → List V → List Addr
  | [], _ => []
  | x :: xs, vs => (match vs with
    | v :: vs => foot H x v ++ foots H xs vs
    | [] => [])
end
mutual
def OwR (P : Par) (G H : Hp) : Ow → V → Prop
  | .dat d, v => Rep P G v d
  | .lst xs, v => ∃ a vs, v = .ref a ∧ H a = some (.lst vs) ∧ OwRs P G H xs vs
  | .tup xs, v => ∃ a vs, v = .ref a ∧ H a = some (.tup vs) ∧ OwRs P G H xs vs
def OwRs (P : Par) (G H : Hp) : List Ow → List V → Prop
  | [], vs => vs = []
  | x :: xs, vs => ∃ v ws, vs = v :: ws ∧ OwR P G H x v ∧ OwRs P G H xs ws
end
theorem foot_lst {H : Hp} {xs : List Ow} {a : Addr} {vs : List V} (h : H a = some (.lst vs)) : foot H (.lst xs) (.ref a) = a :: foots H xs vs := by simp only [foot, h]
theorem foot_tup {H : Hp} {xs : List Ow} {a : Addr} {vs : List V} (h : H a = some (.tup vs)) : foot H (.tup xs) (.ref a) = a :: foots H xs vs := by simp only [foot, h]
theorem foots_cons {H : Hp} {x : Ow} {xs : List Ow} {v : V} {vs : List V} : foots H (x :: xs) (v :: vs) = foot H x v ++ foots H xs vs := by simp only [foots]
mutual
/-- nothing that matters changes -/
theorem OwR.keep {P : Par} {G H G' H' : Hp} (sg : Same G G') : ∀ {o : Ow} {v : V}, OwR P G H o v → (∀ a ∈ foot H o v, ∀ u, H a = some u → H' a = some u) → OwR P G' H' o v ∧ foot H' o v = foot H o v
  | .dat d, v, h, _ => ⟨by rw [OwR] at h ⊢; exact h.mono sg, by simp only [foot]⟩
  | .lst xs, v, h, k => by
    rw [OwR] at h
    obtain ⟨a, vs, rfl, h1, h2⟩ := h
    rw [foot_lst h1] at k ⊢
    have h1' := k a List.mem_cons_self _ h1
    obtain ⟨q1, q2⟩ := OwRs.keep sg h2 fun b hb => k b (List.mem_cons_of_mem _ hb)
    exact ⟨by rw [OwR]; exact ⟨a, vs, rfl, h1', q1⟩, by rw [foot_lst h1', q2]⟩
  | .tup xs, v, h, k => by
    rw [OwR] at h
    obtain ⟨a, vs, rfl, h1, h2⟩ := h
    rw [foot_tup h1] at k ⊢
    have h1' := k a List.mem_cons_self _ h1
    obtain ⟨q1, q2⟩ := OwRs.keep sg h2 fun b hb => k b (List.mem_cons_of_mem _ hb)
    exact ⟨by rw [OwR]; exact ⟨a, vs, rfl, h1', q1⟩, by rw [foot_tup h1', q2]⟩
theorem OwRs.keep {P : Par} {G H G' H' : Hp} (sg : Same G G') : ∀ {os : List Ow} {vs : List V}, OwRs P G H os vs → (∀ a ∈ foots H os vs, ∀ u, H a = some u → H' a = some u) → OwRs P G' H' os vs ∧ foots H' os vs = foots H os vs
  | [], vs, h, _ => ⟨by rw [OwRs] at h ⊢; exact h, by simp only [foots]⟩
  | x :: xs, vs, h, k => by
    rw [OwRs] at h
    obtain ⟨v, ws, rfl, h1, h2⟩ := h
    rw [foots_cons] at k ⊢
    obtain ⟨q1, q2⟩ := OwR.keep sg h1 fun b hb => k b (List.mem_append_left _ hb)
    obtain ⟨q3, q4⟩ := OwRs.keep sg h2 fun b hb => k b (List.mem_append_right _ hb)
    exact ⟨by rw [OwRs]; exact ⟨v, ws, rfl, q1, q3⟩, by rw [foots_cons, q2, q4]⟩
end
mutual
theorem OwR.there {P : Par} {G H : Hp} : ∀ {o : Ow} {v : V}, OwR P G H o v → ∀ a ∈ foot H o v, H a ≠ none
  | .dat d, v, _, a, ha => by simp only [foot, List.not_mem_nil] at ha
  | .lst xs, v, h, b, hb => by
    rw [OwR] at h
    obtain ⟨a, vs, rfl, h1, h2⟩ := h
    rw [foot_lst h1] at hb
    rcases List.mem_cons.mp hb with rfl | hb
    · rw [h1]; simp
    · exact OwRs.there h2 b hb
  | .tup xs, v, h, b, hb => by
    rw [OwR] at h
    obtain ⟨a, vs, rfl, h1, h2⟩ := h
    rw [foot_tup h1] at hb
    rcases List.mem_cons.mp hb with rfl | hb
    · rw [h1]; simp
    · exact OwRs.there h2 b hb
theorem OwRs.there {P : Par} {G H : Hp} : ∀ {os : List Ow} {vs : List V}, OwRs P G H os vs → ∀ a ∈ foots H os vs, H a ≠ none
  | [], vs, _, a, ha => by simp only [foots, List.not_mem_nil] at ha
  | x :: xs, vs, h, b, hb => by
    rw [OwRs] at h
    obtain ⟨v, ws, rfl, h1, h2⟩ := h
    rw [foots_cons] at hb
    rcases List.mem_append.mp hb with hb | hb
    · exact OwR.there h1 b hb
    · exact OwRs.there h2 b hb
end
/-- the heap in which these stand still, too -/
def still (G H : Hp) (L : List Addr) : Hp := fun a => if a ∈ L then H a else G a
theorem still_in {G H : Hp} {L : List Addr} {a : Addr} (h : a ∈ L) : still G H L a = H a := if_pos h
theorem still_out {G H : Hp} {L : List Addr} {a : Addr} (h : a ∉ L) : still G H L a = G a := if_neg h
theorem still_same {G H : Hp} {L : List Addr} (h : ∀ a ∈ L, G a = none) : Same G (still G H L) := fun a u e => by
  by_cases q : a ∈ L
  · rw [h a q] at e; cases e
  · rw [still_out q]; exact e
mutual
theorem OwR.rep {P : Par} {G H G' : Hp} (sg : Same G G') : ∀ {o : Ow} {v : V}, OwR P G H o v → (∀ a ∈ foot H o v, G' a = H a) → Rep P G' v o.d
  | .dat d, v, h, _ => by rw [OwR] at h; rw [Ow.d]; exact h.mono sg
  | .lst xs, v, h, k => by
    rw [OwR] at h
    obtain ⟨a, vs, rfl, h1, h2⟩ := h
    rw [foot_lst h1] at k
    rw [Ow.d]
    exact .lst ((k a List.mem_cons_self).trans h1) (OwRs.reps sg h2 fun b hb => k b (List.mem_cons_of_mem _ hb))
  | .tup xs, v, h, k => by
    rw [OwR] at h
    obtain ⟨a, vs, rfl, h1, h2⟩ := h
    rw [foot_tup h1] at k
    rw [Ow.d]
    exact .tup ((k a List.mem_cons_self).trans h1) (OwRs.reps sg h2 fun b hb => k b (List.mem_cons_of_mem _ hb))
theorem OwRs.reps {P : Par} {G H G' : Hp} (sg : Same G G') : ∀ {os : List Ow} {vs : List V}, OwRs P G H os vs → (∀ a ∈ foots H os vs, G' a = H a) → Reps P G' vs (Ow.ds os)
  | [], vs, h, _ => by rw [OwRs] at h; subst h; rw [Ow.ds]; exact .nil
  | x :: xs, vs, h, k => by
    rw [OwRs] at h
    obtain ⟨v, ws, rfl, h1, h2⟩ := h
    rw [foots_cons] at k
    rw [Ow.ds]
    exact .cons (OwR.rep sg h1 fun b hb => k b (List.mem_append_left _ hb)) (OwRs.reps sg h2 fun b hb => k b (List.mem_append_right _ hb))
end
/-- .. and of nobody else -/
structure OwOk (P : Par) (G H H0 : Hp) (o : Ow) (v : V) : Prop where
  r : OwR P G H o v
  nd : (foot H o v).Nodup
  g : ∀ a ∈ foot H o v, G a = none
  h0 : ∀ a ∈ foot H o v, H0 a = none
theorem OwOk.step {P : Par} {G H G' H' H0 : Hp} {o : Ow} {v : V} (h : OwOk P G H H0 o v) (s : Step G H G' H') : OwOk P G' H' H0 o v ∧ foot H' o v = foot H o v := by
  obtain ⟨q1, q2⟩ := h.r.keep (H' := H') s.gg fun a _ u e => s.hh _ _ e
  refine ⟨⟨q1, by rw [q2]; exact h.nd, fun a ha => ?_, fun a ha => ?_⟩, q2⟩
  · rw [q2] at ha
    rw [s.nw a (h.r.there a ha)]
    exact h.g a ha
  · rw [q2] at ha
    exact h.h0 a ha
/-- a def's answer -/
def RX (P : Par) (H G' H' : Hp) (v : V) (r : Rt) : Prop := match r with
  | .v x => RV P H G' H' v x
  | .dp o => OwOk P G' H' H o v
theorem _root_.L2.Same.trans' {a b c : Hp} (h : Same a b) (k : Same b c) : Same a c := fun x u e => k _ _ (h _ _ e)
/-- what is one's own is let stand still -/
theorem OwOk.still {P : Par} {G H G' H' : Hp} {v : V} {o : Ow} (h : OwOk P G' H' H o v) (s : Step G H G' H') : ∃ G2, Step G H G2 H' ∧ Same G' G2 ∧ Rep P G2 v o.d := by
  have sm := still_same (H := H') h.g
  refine ⟨PL.still G' H' (foot H' o v), ⟨s.hh, s.gg.trans' sm, fun a u e => ?_, fun a ha => ?_⟩, sm, h.r.rep sm fun a ha => still_in ha⟩
  · by_cases q : a ∈ foot H' o v
    · rw [still_in q] at e; exact e
    · rw [still_out q] at e; exact s.gh _ _ e
  · rw [still_out fun q => ha (h.h0 a q)]
    exact s.nw a ha
theorem RX.fl {P : Par} {G H G' H' : Hp} {v : V} {r : Rt} (h : RX P H G' H' v r) (s : Step G H G' H') : ∃ G2, Step G H G2 H' ∧ Same G' G2 ∧ RV P H G2 H' v r.fl := by
  cases r with
  | v x => exact ⟨G', s, fun _ _ e => e, h⟩
  | dp o =>
    obtain ⟨G2, s2, sm, rep⟩ := OwOk.still h s
    exact ⟨G2, s2, sm, rep⟩

/-- an error's class and its fields -/
def ErrRep (P : Par) (G' H' : Hp) (cls : Value) (d : Option Addr) (k : Nat) (fs : List D) : Prop :=
  ∃ xi, P.T.exs[k]? = some xi ∧ cls = .ref (P.xa k) ∧ (xi.fields = [] ∨ ∃ dd fv vs, d = some dd ∧ H' dd = some (.xd fv) ∧ Reps P G' vs fs ∧ ∀ (j : Nat) n v, xi.fields[j]? = some n → vs[j]? = some v → fv.lookup n = some v)
theorem ErrRep.step {P : Par} {G H G' H' : Hp} {cls : Value} {d : Option Addr} {k : Nat} {fs : List D} (h : ErrRep P G H cls d k fs) (s : Step G H G' H') : ErrRep P G' H' cls d k fs := by
  obtain ⟨xi, h1, h2, h3⟩ := h
  refine ⟨xi, h1, h2, ?_⟩
  rcases h3 with h3 | ⟨dd, fv, vs, e1, e2, e3, e4⟩
  · exact .inl h3
  · exact .inr ⟨dd, fv, vs, e1, s.hh _ _ e2, e3.mono s.gg, e4⟩

/-! ### the frame -/
/-- where the lists lie that are only looked at; the exception that is in hand: its address, class and own dict -/
structure Hand where
  hk : Hp
  ex : Option (Addr × Value × Option Addr)
  ob : Option (Nat × Addr)
def SlR (P : Par) (cx : Hand) (H0 G H : Hp) (o : Option (Option V)) (s : Sl) : Prop := match s with
  | .no => True
  | .val d => ∃ v, o = some (some v) ∧ Rep P G v d
  | .own ds => ∃ p vs, o = some (some (.ref p)) ∧ H p = some (.lst vs) ∧ G p = none ∧ H0 p = none ∧ Reps P G vs ds
  | .pk ds => ∃ p vs, o = some (some (.ref p)) ∧ SqL P.K cx.hk p vs ∧ Reps P G vs ds
  | .exc k fs => ∃ a cls d, cx.ex = some (a, cls, d) ∧ o = some (some (.ref a)) ∧ ErrRep P G H cls d k fs
  | .obj c ds => ∃ x dx fs vs ci, o = some (some (.ref x)) ∧ H x = some (.ins (P.ca c) dx fs) ∧ G x = none ∧ H0 x = none ∧ P.T.cls[c]? = some ci ∧ InsOk ci.fields fs vs ∧ Reps P G vs ds ∧ cx.ob = some (c, x)
  | .dp w => ∃ v, o = some (some v) ∧ OwOk P G H H0 w v
/-- the list or the instance that a slot holds alone -/
def held (H : Hp) (s : Sl) (o : Option (Option V)) (p : Addr) : Prop := match s with
  | .own _ => o = some (some (.ref p))
  | .obj _ _ => o = some (some (.ref p))
  | .dp w => ∃ v, o = some (some v) ∧ p ∈ foot H w v
  | _ => False
structure Rel (P : Par) (cx : Hand) (G0 H0 G H : Hp) (σ : St) (env : Env) : Prop where
  hk : Same cx.hk H0
  hh : Same H0 H
  gg : Same G0 G
  gh : Same G H
  nw : ∀ a, H0 a ≠ none → G a = G0 a
  len : σ.length = env.length
  sl : ∀ (i : Nat) s, env[i]? = some s → SlR P cx H0 G H σ[i]? s
  dis : ∀ (i j : Nat) s t p, env[i]? = some s → env[j]? = some t → held H s σ[i]? p → held H t σ[j]? p → i = j
theorem SlR.step {P : Par} {cx : Hand} {H0 G H G' H' : Hp} {o : Option (Option V)} {s : Sl} (h : SlR P cx H0 G H o s) (st : Step G H G' H') : SlR P cx H0 G' H' o s := by
  cases s with
  | no => trivial
  | val d => obtain ⟨v, e, r⟩ := h; exact ⟨v, e, r.mono st.gg⟩
  | own ds =>
    obtain ⟨p, vs, e, h1, h2, h3, r⟩ := h
    exact ⟨p, vs, e, st.hh _ _ h1, (st.nw p (by rw [h1]; simp)).trans h2, h3, r.mono st.gg⟩
  | pk ds => obtain ⟨p, vs, e, h1, r⟩ := h; exact ⟨p, vs, e, h1, r.mono st.gg⟩
  | exc k fs => obtain ⟨a, cls, d, e1, e2, r⟩ := h; exact ⟨a, cls, d, e1, e2, r.step st⟩
  | obj c ds =>
    obtain ⟨x, dx, fs, vs, ci, e, h1, h2, h3, h4, h5, r, ho⟩ := h
    exact ⟨x, dx, fs, vs, ci, e, st.hh _ _ h1, (st.nw x (by rw [h1]; simp)).trans h2, h3, h4, h5, r.mono st.gg, ho⟩
  | dp w => obtain ⟨v, e, k⟩ := h; exact ⟨v, e, (k.step st).1⟩
/-- what is held lies there -/
theorem SlR.there {P : Par} {cx : Hand} {H0 G H : Hp} {o : Option (Option V)} {s : Sl} {p : Addr} (h : SlR P cx H0 G H o s) (k : held H s o p) : H p ≠ none ∧ G p = none ∧ H0 p = none := by
  cases s with
  | own ds =>
    obtain ⟨q, vs, e, h1, h2, h3, _⟩ := h
    have k : o = some (some (.ref p)) := k
    rw [e] at k
    cases k
    exact ⟨by rw [h1]; simp, h2, h3⟩
  | obj c ds =>
    obtain ⟨q, dx, fs, vs, ci, e, h1, h2, h3, _⟩ := h
    have k : o = some (some (.ref p)) := k
    rw [e] at k
    cases k
    exact ⟨by rw [h1]; simp, h2, h3⟩
  | dp w =>
    obtain ⟨v, e, r⟩ := h
    obtain ⟨v', e', m⟩ := k
    rw [e] at e'
    cases e'
    exact ⟨r.r.there p m, r.g p m, r.h0 p m⟩
  | _ => exact k.elim
/-- what is held stays -/
theorem held_step {P : Par} {cx : Hand} {H0 G H G' H' : Hp} {o : Option (Option V)} {s : Sl} {p : Addr} (h : SlR P cx H0 G H o s) (st : Step G H G' H') : held H' s o p ↔ held H s o p := by
  cases s with
  | dp w =>
    obtain ⟨v, e, r⟩ := h
    have q := (r.step st).2
    constructor
    · rintro ⟨v', e', m⟩
      rw [e] at e'
      cases e'
      exact ⟨v, e, by rw [← q]; exact m⟩
    · rintro ⟨v', e', m⟩
      rw [e] at e'
      cases e'
      exact ⟨v, e, by rw [q]; exact m⟩
  | _ => exact Iff.rfl
theorem Rel.step {P : Par} {cx : Hand} {G0 H0 G H G' H' : Hp} {σ : St} {env : Env} (r : Rel P cx G0 H0 G H σ env) (st : Step G H G' H') : Rel P cx G0 H0 G' H' σ env :=
  ⟨r.hk, r.hh.trans st.hh, r.gg.trans st.gg, st.gh, fun a ha => (st.nw a (r.hh.ne ha)).trans (r.nw a ha), r.len, fun i s e => (r.sl i s e).step st, fun i j s t p ei ej hi hj => r.dis i j s t p ei ej ((held_step (r.sl i s ei) st).mp hi) ((held_step (r.sl j t ej) st).mp hj)⟩

/-! ### readings -/
def Post {α β : Type} (P : Par) (W : WX) (σ : St) (G H : Hp) (R : Hp → Hp → Hp → β → α → Prop) (r : Res α) (Q : β → Hp → Prop) : Prop := match r with
  | .ok a => ∀ x H' G', Step G H G' H' → R H G' H' x a → Q x H'
  | .err k fs => ∀ cls d H' G', Step G H G' H' → ErrRep P G' H' cls d k fs → W cls d σ H'
  | .bad => False
def tR {α β : Type} (P : Par) (cx : Hand) (G0 H0 : Hp) (W : WX) (R : Hp → Hp → Hp → β → α → Prop) (f : Env → Res α) : St → Hp → (β → Hp → Prop) → Prop := fun σ H Q =>
  ∃ G env, Rel P cx G0 H0 G H σ env ∧ Post P W σ G H R (f env) Q
/-- a relation that does not mind an earlier start -/
def Anti {α β : Type} (R : Hp → Hp → Hp → β → α → Prop) : Prop := ∀ H H1 G' H' x a, Same H H1 → R H1 G' H' x a → R H G' H' x a
theorem anti_RV {P : Par} : Anti (RV P) := fun H H1 G' H' x a s h => by
  cases a with
  | val d => exact h
  | own ds =>
    obtain ⟨p, vs, e, h1, h2, h3, r⟩ := h
    exact ⟨p, vs, e, h1, h2, s.free h3, r⟩
theorem anti_RX {P : Par} : Anti (RX P) := fun H H1 G' H' x a s h => by
  cases a with
  | v y => exact anti_RV H H1 G' H' x y s h
  | dp o => exact ⟨h.r, h.nd, h.g, fun a ha => s.free (h.h0 a ha)⟩
theorem anti_RP {P : Par} : Anti (RP P) := fun _ _ _ _ _ _ _ h => h
theorem anti_RQ {P : Par} : Anti (RQ P) := fun _ _ _ _ _ _ _ h => h
theorem anti_RD {P : Par} : Anti (RD P) := fun _ _ _ _ _ _ _ h => h
theorem anti_RDs {P : Par} : Anti (RDs P) := fun _ _ _ _ _ _ _ h => h
theorem anti_RB : Anti RB := fun _ _ _ _ _ _ _ h => h
theorem anti_RO : Anti RO := fun _ _ _ _ _ _ _ h => h
section
variable {α β γ δ : Type} {P : Par} {W : WX} {σ : St} {G H G1 H1 : Hp} {R : Hp → Hp → Hp → β → α → Prop} {R1 : Hp → Hp → Hp → δ → γ → Prop}
theorem Post.after {r : Res α} {Q : β → Hp → Prop} (hR : Anti R) (s : Step G H G1 H1) (h : Post P W σ G H R r Q) : Post P W σ G1 H1 R r Q := by
  cases r with
  | ok a => exact fun x H' G' s' q => h x H' G' (s.trans s') (hR _ _ _ _ _ _ s.hh q)
  | err k fs => exact fun cls d H' G' s' q => h cls d H' G' (s.trans s') q
  | bad => exact h
theorem Post.bind {f : Res γ} {k : γ → Res α} {Q : β → Hp → Prop} {Q1 : δ → Hp → Prop} (hR : Anti R) (h : Post P W σ G H R (f.bind k) Q)
    (hk : ∀ a x H1 G1, Step G H G1 H1 → R1 H G1 H1 x a → Post P W σ G1 H1 R (k a) Q → Q1 x H1) : Post P W σ G H R1 f Q1 := by
  cases f with
  | ok a => exact fun x H' G' s q => hk a x H' G' s q (Post.after hR s h)
  | err k fs => exact h
  | bad => exact h
theorem Post.imp {r : Res α} {Q Q' : β → Hp → Prop} (h : Post P W σ G H R r Q) (hq : ∀ a x H' G', Step G H G' H' → R H G' H' x a → r = .ok a → Q x H' → Q' x H') : Post P W σ G H R r Q' := by
  cases r with
  | ok a => exact fun x H' G' s q => hq a x H' G' s q rfl (h x H' G' s q)
  | err k fs => exact h
  | bad => exact h
end
theorem _root_.L2.PE.imp {X : Cx} {e : Expr} {t t' : TE} (h : PE X e t) (i : ∀ σ H Q, t' σ H Q → t σ H Q) : PE X e t' := ⟨fun pins s σ H Q I q => h.run pins s σ H Q I (i σ H Q q)⟩
theorem _root_.L2.PT.imp {X : Cx} {e : Expr} {t t' : TT} (h : PT X e t) (i : ∀ σ H Q, t' σ H Q → t σ H Q) : PT X e t' := ⟨fun pins s σ H Q I q => h.run pins s σ H Q I (i σ H Q q)⟩
theorem _root_.L2.PW.imp {X : Cx} {e : Expr} {t t' : TT} (h : PW X e t) (i : ∀ σ H Q, t' σ H Q → t σ H Q) : PW X e t' := ⟨fun w pins s σ H Q I q => h.run w pins s σ H Q I (i σ H Q q)⟩
theorem _root_.L2.PA.imp {X : Cx} {e : List Expr} {t t' : TA} (h : PA X e t) (i : ∀ σ H Q, t' σ H Q → t σ H Q) : PA X e t' := ⟨fun pos pins s σ H Q I q => h.run pos pins s σ H Q I (i σ H Q q)⟩
theorem _root_.L2.PS.imp {X : Cx} {e : Stmt} {t t' : TS} (h : PS X e t) (i : ∀ D σ H, t' D σ H → t D σ H) : PS X e t' := ⟨fun pins s σ H D I q => h.run pins s σ H D I (i D σ H q)⟩
theorem _root_.L2.PSs.imp {X : Cx} {e : List Stmt} {t t' : TS} (h : PSs X e t) (i : ∀ D σ H, t' D σ H → t D σ H) : PSs X e t' := ⟨fun pins s σ H D I q => h.run pins s σ H D I (i D σ H q)⟩

section
variable {X : Cx} {T : Tab} {ca xa : Nat → Addr} {cx : Hand} {G0 H0 : Hp} {W : WX}
abbrev PX (X : Cx) (T : Tab) (ca xa : Nat → Addr) : Par := ⟨X.K, T, ca, xa⟩
/-- what an expression, an operand .. is shown to be -/
abbrev SE (X : Cx) (T : Tab) (ca xa : Nat → Addr) (cx : Hand) (G0 H0 : Hp) (W : WX) (e : Expr) (f : Env → Res Vl) : Prop := PE X e (tR (PX X T ca xa) cx G0 H0 W (RV (PX X T ca xa)) f)
abbrev SP' (X : Cx) (T : Tab) (ca xa : Nat → Addr) (cx : Hand) (G0 H0 : Hp) (W : WX) (e : Expr) (f : Env → Res D) : Prop := PE X e (tR (PX X T ca xa) cx G0 H0 W (RP (PX X T ca xa)) f)
abbrev SQ (X : Cx) (T : Tab) (ca xa : Nat → Addr) (cx : Hand) (G0 H0 : Hp) (W : WX) (e : Expr) (f : Env → Res D) : Prop := PE X e (tR (PX X T ca xa) cx G0 H0 W (RQ (PX X T ca xa)) f)
abbrev SD (X : Cx) (T : Tab) (ca xa : Nat → Addr) (cx : Hand) (G0 H0 : Hp) (W : WX) (e : Expr) (f : Env → Res D) : Prop := PE X e (tR (PX X T ca xa) cx G0 H0 W (RD (PX X T ca xa)) f)
abbrev ST (X : Cx) (T : Tab) (ca xa : Nat → Addr) (cx : Hand) (G0 H0 : Hp) (W : WX) (e : Expr) (f : Env → Res Bool) : Prop := PT X e (tR (PX X T ca xa) cx G0 H0 W RB f)
abbrev SA (X : Cx) (T : Tab) (ca xa : Nat → Addr) (cx : Hand) (G0 H0 : Hp) (W : WX) (e : List Expr) (f : Env → Res (List D)) : Prop := PA X e (tR (PX X T ca xa) cx G0 H0 W (RDs (PX X T ca xa)) f)

/-- constants -/
theorem s_const {e : Expr} {v : V} {d : D} (h : PE X e (tC v)) (r : ∀ G, Rep (PX X T ca xa) G v d) : SE X T ca xa cx G0 H0 W e fun _ => .ok (.val d) :=
  h.imp fun σ H Q ⟨G, env, rel, p⟩ => p v H G (Step.refl rel.gh) (r G)
theorem s_var {i : Nat} {x : Str} {pos : Pos} (hN : X.N[i]? = some x) (hv : Vis X.env.scope x) (hd : (x == ("__debug__" : Str)) = false) (hcd : (x == ("__classdict__" : Str)) = false) : SE X T ca xa cx G0 H0 W (.Name x pos) fun env => getv env i :=
  (pe_var hN hv hd hcd).imp fun σ H Q ⟨G, env, rel, p⟩ => by
    dsimp only [getv] at p
    cases e : env[i]? with
    | none => rw [e] at p; exact p.elim
    | some s =>
      have q := rel.sl i s e
      rw [e] at p
      cases s with
      | val d =>
        obtain ⟨v, e2, r⟩ := q
        exact ⟨v, e2, p v H G (Step.refl rel.gh) r⟩
      | _ => exact p.elim
theorem s_peek {i : Nat} {x : Str} {pos : Pos} (hN : X.N[i]? = some x) (hv : Vis X.env.scope x) (hd : (x == ("__debug__" : Str)) = false) (hcd : (x == ("__classdict__" : Str)) = false) : SP' X T ca xa cx G0 H0 W (.Name x pos) fun env => peek env i :=
  (pe_var hN hv hd hcd).imp fun σ H Q ⟨G, env, rel, p⟩ => by
    dsimp only [peek] at p
    cases e : env[i]? with
    | none => rw [e] at p; exact p.elim
    | some s =>
      have q := rel.sl i s e
      rw [e] at p
      cases s with
      | val d =>
        obtain ⟨v, e2, r⟩ := q
        exact ⟨v, e2, p v H G (Step.refl rel.gh) (.inl r)⟩
      | own ds =>
        obtain ⟨a, vs, e2, h1, _, _, r⟩ := q
        exact ⟨_, e2, p _ H G (Step.refl rel.gh) (.inr ⟨a, vs, ds, rfl, rfl, SqL.of h1, r⟩)⟩
      | pk ds =>
        obtain ⟨a, vs, e2, h1, r⟩ := q
        exact ⟨_, e2, p _ H G (Step.refl rel.gh) (.inr ⟨a, vs, ds, rfl, rfl, (rel.hk.trans rel.hh).seq h1, r⟩)⟩
      | _ => exact p.elim
/-- looked at by itself -/
theorem s_toP {e : Expr} {f : Env → Res Vl} (h : SE X T ca xa cx G0 H0 W e f) : SP' X T ca xa cx G0 H0 W e fun env => (f env).bind fun x => .ok x.d :=
  h.imp fun σ H Q ⟨G, env, rel, p⟩ => ⟨G, env, rel, Post.bind anti_RP p fun a x H1 G1 s r q => q x H1 G1 (Step.refl s.gh) r.toP⟩
theorem s_toQ {e : Expr} {f : Env → Res Vl} (h : SE X T ca xa cx G0 H0 W e f) : SQ X T ca xa cx G0 H0 W e fun env => (f env).bind fun x => .ok x.d :=
  h.imp fun σ H Q ⟨G, env, rel, p⟩ => ⟨G, env, rel, Post.bind anti_RQ p fun a x H1 G1 s r q => q x H1 G1 (Step.refl s.gh) r.toQ⟩
/-- let stand still -/
theorem s_toD {e : Expr} {f : Env → Res Vl} (h : SE X T ca xa cx G0 H0 W e f) : SD X T ca xa cx G0 H0 W e fun env => (f env).bind fun x => .ok x.d :=
  h.imp fun σ H Q ⟨G, env, rel, p⟩ => by
    refine ⟨G, env, rel, ?_⟩
    cases e : f env with
    | ok a =>
      simp only [e, Res.bind_ok] at p
      intro x H1 G1 s r
      obtain ⟨G2, s2, _, r2⟩ := RV.still r s
      exact p x H1 G2 s2 r2
    | err k fs => simp only [e, Res.bind_err] at p; exact p
    | bad => simp only [e, Res.bind_bad] at p; exact p
theorem s_fz {e : Expr} {f : Env → Res Vl} (h : SE X T ca xa cx G0 H0 W e f) : SE X T ca xa cx G0 H0 W e fun env => (f env).bind fun x => .ok (.val x.d) :=
  h.imp fun σ H Q ⟨G, env, rel, p⟩ => by
    refine ⟨G, env, rel, ?_⟩
    cases e : f env with
    | ok a =>
      simp only [e, Res.bind_ok] at p
      intro x H1 G1 s r
      obtain ⟨G2, s2, _, r2⟩ := RV.still r s
      exact p x H1 G2 s2 r2
    | err k fs => simp only [e, Res.bind_err] at p; exact p
    | bad => simp only [e, Res.bind_bad] at p; exact p
end
end PL

set_option linter.all false
set_option Elab.async false
set_option maxRecDepth 100000
set_option maxHeartbeats 4000000
/-! Soundness, part 2: the operations. -/
namespace PL
open PySem PySem.Spec PyProof.Rows L2

/-! ### == -/
mutual
def toP : D → PyData
  | .non => .none
  | .bl b => .bool b
  | .int i => .int i
  | .str x => .str x
  | .tup xs => .tuple (toPs xs)
  | .lst xs => .list (toPs xs)
  | .ins _ _ => .dict []
def toPs : List D → List PyData
  | [] => []
  | x :: xs => toP x :: toPs xs
end
mutual
theorem eqD_toP : ∀ (a b : D) (n m : Nat), eqOk n a = true → eqOk m b = true → PyData.eqv (toP a) (toP b) = eqD a b
  | .non, b, _, _, _, _ => by cases b <;> simp [toP, PyData.eqv, eqD, eqOk] at *
  | .bl _, b, _, _, _, _ => by cases b <;> simp [toP, PyData.eqv, eqD, eqOk] at *
  | .int _, b, _, _, _, _ => by cases b <;> simp [toP, PyData.eqv, eqD, eqOk] at *
  | .str _, b, _, _, _, _ => by cases b <;> simp [toP, PyData.eqv, eqD, eqOk] at *
  | .tup xs, b, n, m, h1, h2 => by
    cases b with
    | tup ys =>
      cases n with
      | zero => simp [eqOk] at h1
      | succ n =>
        cases m with
        | zero => simp [eqOk] at h2
        | succ m =>
          simp only [toP, PyData.eqv, eqD]
          exact eqDs_toP xs ys n m (by simpa [eqOk] using h1) (by simpa [eqOk] using h2)
    | _ => simp [toP, PyData.eqv, eqD, eqOk] at *
  | .lst xs, b, n, m, h1, h2 => by
    cases b with
    | lst ys =>
      cases n with
      | zero => simp [eqOk] at h1
      | succ n =>
        cases m with
        | zero => simp [eqOk] at h2
        | succ m =>
          simp only [toP, PyData.eqv, eqD]
          exact eqDs_toP xs ys n m (by simpa [eqOk] using h1) (by simpa [eqOk] using h2)
    | _ => simp [toP, PyData.eqv, eqD, eqOk] at *
  | .ins _ _, _, n, _, h, _ => by cases n <;> simp [eqOk] at h
theorem eqDs_toP : ∀ (a b : List D) (n m : Nat), eqOks n a = true → eqOks m b = true → PyData.eqvAll (toPs a) (toPs b) = eqDs a b
  | [], [], _, _, _, _ => by simp [toPs, PyData.eqvAll, eqDs]
  | [], _ :: _, _, _, _, _ => by simp [toPs, PyData.eqvAll, eqDs]
  | _ :: _, [], _, _, _, _ => by simp [toPs, PyData.eqvAll, eqDs]
  | x :: xs, y :: ys, n, m, h1, h2 => by
    simp only [eqOks, Bool.and_eq_true] at h1 h2
    simp only [toPs, PyData.eqvAll, eqDs]
    rw [eqD_toP x y n m h1.1 h2.1, eqDs_toP xs ys n m h1.2 h2.2]
end
mutual
theorem eqOk_lay : ∀ (n : Nat) (d : D), eqOk n d = true → (toP d).canLay0 = true ∧ (toP d).depth ≤ n
  | n, .non, _ => by simp [toP, PyData.canLay0, PyData.depth]
  | n, .bl _, _ => by simp [toP, PyData.canLay0, PyData.depth]
  | n, .int _, _ => by simp [toP, PyData.canLay0, PyData.depth]
  | n, .str x, h => by
    have h' : PyData.strOk x = true := by cases n <;> simpa [eqOk] using h
    simp [toP, PyData.canLay0, PyData.depth, h']
  | 0, .tup _, h => by simp [eqOk] at h
  | 0, .lst _, h => by simp [eqOk] at h
  | n + 1, .tup xs, h => by
    obtain ⟨h1, h2⟩ := eqOks_lay n xs (by simpa [eqOk] using h)
    simp only [toP, PyData.canLay0, PyData.depth]
    exact ⟨h1, by omega⟩
  | n + 1, .lst xs, h => by
    obtain ⟨h1, h2⟩ := eqOks_lay n xs (by simpa [eqOk] using h)
    simp only [toP, PyData.canLay0, PyData.depth]
    exact ⟨h1, by omega⟩
  | n, .ins _ _, h => by cases n <;> simp [eqOk] at h
theorem eqOks_lay : ∀ (n : Nat) (d : List D), eqOks n d = true → PyData.canLayAll0 (toPs d) = true ∧ PyData.depthAll (toPs d) ≤ n
  | n, [], _ => by simp [toPs, PyData.canLayAll0, PyData.depthAll]
  | n, x :: xs, h => by
    simp only [eqOks, Bool.and_eq_true] at h
    obtain ⟨h1, h2⟩ := eqOk_lay n x h.1
    obtain ⟨h3, h4⟩ := eqOks_lay n xs h.2
    simp only [toPs, PyData.canLayAll0, PyData.depthAll, h1, h3, Bool.and_self, true_and]
    omega
end
theorem shaped_of {d : D} (h : eqOk 60 d = true) : SeqAt.shaped (toP d) = true := by
  obtain ⟨h1, h2⟩ := eqOk_lay 60 d h
  unfold SeqAt.shaped
  rw [h1, decide_eq_true (by omega : (toP d).depth ≤ 64)]
  rfl
mutual
theorem Rep.dp {P : Par} {G H : Hp} (s : Same G H) : ∀ {v : V} {d : D} {n : Nat}, Rep P G v d → eqOk n d = true → Dp P.K H v (toP d)
  | _, _, _, .non, _ => .non
  | _, _, _, .bl b, _ => .bl b
  | _, _, _, .int b, _ => .int b
  | _, _, _, .str b, _ => .str b
  | _, _, 0, .tup _ _, h => by simp [eqOk] at h
  | _, _, n + 1, .tup e r, h => .tup (SqT.of (s _ _ e)) (Reps.dp s r (n := n) (by simpa [eqOk] using h))
  | _, _, 0, .lst _ _, h => by simp [eqOk] at h
  | _, _, n + 1, .lst e r, h => .lst (SqL.of (s _ _ e)) (Reps.dp s r (n := n) (by simpa [eqOk] using h))
  | _, _, n, .ins _ _ _ _, h => by cases n <;> simp [eqOk] at h
theorem Reps.dp {P : Par} {G H : Hp} (s : Same G H) : ∀ {v : List V} {d : List D} {n : Nat}, Reps P G v d → eqOks n d = true → DpAll P.K H v (toPs d)
  | _, _, _, .nil, _ => .nil
  | _, _, n, .cons h r, e => by
    simp only [eqOks, Bool.and_eq_true] at e
    exact .cons (Rep.dp s h e.1) (Reps.dp s r e.2)
end
theorem RP.dp {P : Par} {H0 G H : Hp} {v : V} {d : D} (h : RP P H0 G H v d) (s : Same G H) {n : Nat} (e : eqOk n d = true) : Dp P.K H v (toP d) := by
  rcases h with h | ⟨p, vs, ds, rfl, rfl, h1, r⟩
  · exact h.dp s e
  · cases n with
    | zero => simp [eqOk] at e
    | succ n => exact .lst h1 (Reps.dp s r (by simpa [eqOk] using e))

/-! ### seen from the data -/
section
variable {P : Par} {H0 G H : Hp} {v : V}
theorem RP.int {i : Int} (h : RP P H0 G H v (.int i)) : v = .int i := by
  rcases h with h | ⟨_, _, _, _, e, _⟩
  · cases h; rfl
  · cases e
theorem RP.bl {i : Bool} (h : RP P H0 G H v (.bl i)) : v = .bl i := by
  rcases h with h | ⟨_, _, _, _, e, _⟩
  · cases h; rfl
  · cases e
theorem RP.str {i : Str} (h : RP P H0 G H v (.str i)) : v = .str i := by
  rcases h with h | ⟨_, _, _, _, e, _⟩
  · cases h; rfl
  · cases e
theorem RP.non (h : RP P H0 G H v .non) : v = .non := by
  rcases h with h | ⟨_, _, _, _, e, _⟩
  · cases h; rfl
  · cases e
theorem RP.lst {ds : List D} (s : Same G H) (h : RP P H0 G H v (.lst ds)) : ∃ p vs, v = .ref p ∧ SqL P.K H p vs ∧ Reps P G vs ds := by
  rcases h with h | ⟨p, vs, ds', e1, e2, h1, r⟩
  · cases h with
    | lst e r => exact ⟨_, _, rfl, SqL.of (s _ _ e), r⟩
  · cases e2
    exact ⟨p, vs, e1, h1, r⟩
theorem RP.tup {ds : List D} (h : RP P H0 G H v (.tup ds)) : ∃ p vs, v = .ref p ∧ G p = some (.tup vs) ∧ Reps P G vs ds := by
  rcases h with h | ⟨p, vs, ds', e1, e2, h1, r⟩
  · cases h with
    | tup e r => exact ⟨_, _, rfl, e, r⟩
  · cases e2
theorem RQ.int {i : Int} (h : RQ P H0 G H v (.int i)) : v = .int i := h.toP.int
theorem RQ.str {i : Str} (h : RQ P H0 G H v (.str i)) : v = .str i := h.toP.str
theorem RQ.tup {ds : List D} (h : RQ P H0 G H v (.tup ds)) : ∃ p vs, v = .ref p ∧ G p = some (.tup vs) ∧ Reps P G vs ds := h.toP.tup
theorem RQ.lst {ds : List D} (s : Same G H) (h : RQ P H0 G H v (.lst ds)) : ∃ p vs, v = .ref p ∧ H p = some (.lst vs) ∧ Reps P G vs ds := by
  rcases h with h | ⟨p, vs, ds', e1, e2, h1, r⟩
  · cases h with
    | lst e r => exact ⟨_, _, rfl, s _ _ e, r⟩
  · cases e2
    exact ⟨p, vs, e1, h1, r⟩
theorem RV.int {i : Int} (h : RV P H0 G H v (.val (.int i))) : v = .int i := by
  have h : Rep P G v (.int i) := h
  cases h; rfl
end

/-! ### new objects -/
section
variable {P : Par} {W : WX} {σ : St} {G H : Hp} {Q : VK}
theorem post_val {d : D} {v : V} (s : Same G H) (h : Post P W σ G H (RV P) (.ok (.val d)) Q) (r : Rep P G v d) : Q v H := h v H G (Step.refl s) r
theorem post_own {ds : List D} {vs : List V} {p : Addr} (s : Same G H) (h : Post P W σ G H (RV P) (.ok (.own ds)) Q) (r : Reps P G vs ds) (hp : H p = none) : Q (.ref p) (upd H p (.lst vs)) :=
  h _ _ _ (Step.mine s hp) ⟨p, vs, rfl, upd_same, s.free hp, hp, r⟩
theorem post_tup {ds : List D} {vs : List V} {p : Addr} (s : Same G H) (h : Post P W σ G H (RV P) (.ok (.val (.tup ds))) Q) (r : Reps P G vs ds) (hp : H p = none) : Q (.ref p) (upd H p (.tup vs)) :=
  h _ _ _ (Step.new s hp) (.tup upd_same (r.mono (same_upd (s.free hp))))
end

/-! ### two operands -/
section
variable {X : Cx} {T : Tab} {ca xa : Nat → Addr} {cx : Hand} {G0 H0 : Hp} {W : WX} {a b : Expr} {fa fb : Env → Res D} {pos : Pos}
abbrev OpQ (X : Cx) (T : Tab) (ca xa : Nat → Addr) (g : D → D → Res Vl) (r : R2) : Prop := ∀ (W : WX) (σ : St) (G H : Hp) (x y : V) (da db : D) (Q : VK), Same G H → RQ (PX X T ca xa) H G H x da → RQ (PX X T ca xa) H G H y db → Post (PX X T ca xa) W σ G H (RV (PX X T ca xa)) (g da db) Q → r x y H Q
theorem s_two {r : R2} {g : D → D → Res Vl} (hp : OpQ X T ca xa g r) (ha : SQ X T ca xa cx G0 H0 W a fa) (hb : SQ X T ca xa cx G0 H0 W b fb) (he : ∀ {ta tb : TE}, PE X a ta → PE X b tb → PE X e (tOp r ta tb)) :
    SE X T ca xa cx G0 H0 W e fun env => (fa env).bind fun x => (fb env).bind fun y => g x y :=
  (he ha hb).imp fun σ H Q ⟨G, env, rel, p⟩ => ⟨G, env, rel, Post.bind anti_RV p fun da x H1 G1 s1 r1 q1 => ⟨G1, env, rel.step s1, Post.bind anti_RV q1 fun db y H2 G2 s2 r2 q2 =>
    hp W σ G2 H2 x y da db Q s2.gh (r1.step s2) r2 q2⟩⟩
theorem oq_add : OpQ X T ca xa (bin .add) (fun x y H Q => (∃ i j, x = .int i ∧ y = .int j ∧ Q (.int (i + j)) H) ∨ (∃ i j, x = .str i ∧ y = .str j ∧ i.length + j.length ≤ sizeLine ∧ Q (.str (i ++ j)) H) ∨ rCat x y H Q ∨ rCatT X.K x y H Q) := by
  intro W σ G H x y da db Q s rx ry p
  cases da with
  | int i => cases db with
    | int j => exact .inl ⟨i, j, rx.int, ry.int, post_val s p (.int _)⟩
    | _ => exact False.elim p
  | str i => cases db with
    | str j =>
      simp only [bin] at p
      by_cases h : i.length + j.length ≤ SL
      · rw [if_pos h] at p
        exact .inr (.inl ⟨i, j, rx.str, ry.str, by rw [sizeLine_eq]; exact h, post_val s p (.str _)⟩)
      · rw [if_neg h] at p; exact False.elim p
    | _ => exact False.elim p
  | lst ds => cases db with
    | lst es =>
      simp only [bin] at p
      by_cases h : ds.length + es.length ≤ SL
      · rw [if_pos h] at p
        obtain ⟨a, vs, rfl, h1, r1⟩ := rx.lst s
        obtain ⟨b, ws, rfl, h2, r2⟩ := ry.lst s
        exact .inr (.inr (.inl ⟨a, b, vs, ws, rfl, rfl, h1, h2, by rw [sizeLine_eq, r1.length, r2.length]; exact h, fun q hq => post_own s p (r1.append r2) hq⟩))
      · rw [if_neg h] at p; exact False.elim p
    | _ => exact False.elim p
  | tup ds => cases db with
    | tup es =>
      simp only [bin] at p
      by_cases h : ds ≠ [] ∧ ds.length + es.length ≤ SL
      · rw [if_pos h] at p
        obtain ⟨a, vs, rfl, h1, r1⟩ := rx.tup
        obtain ⟨b, ws, rfl, h2, r2⟩ := ry.tup
        have nv : vs ≠ [] := fun z => h.1 (by
          have := r1.length
          rw [z] at this
          exact List.length_eq_zero_iff.mp this.symm)
        refine .inr (.inr (.inr ⟨a, b, vs, ws, rfl, rfl, SqT.of (s _ _ h1), SqT.of (s _ _ h2), nv, by rw [sizeLine_eq, r1.length, r2.length]; exact h.2, fun z => ?_, fun _ q hq => post_tup s p (r1.append r2) hq⟩))
        refine post_val s p (.tup h1 ?_)
        have := r1.append r2
        rw [z, List.append_nil] at this
        exact this
      · rw [if_neg h] at p; exact False.elim p
    | _ => exact False.elim p
  | _ => cases db <;> exact False.elim p
theorem mulOk_ok {i j : Int} (h : mulOk i j = true) : IntMulOk i j := by
  unfold mulOk at h
  simp only [Bool.or_eq_true, Bool.and_eq_true, decide_eq_true_eq] at h
  have e : big = 2 ^ 64 := by decide
  rw [e] at h
  rcases h with h | h | h
  · exact CMul.ok (.inl h)
  · exact CMul.ok (.inr h)
  · have b : ∀ x : Int, Builtin.Int.intBits x ≤ x.natAbs.log2 + 1 := fun x => by
      unfold Builtin.Int.intBits
      split <;> omega
    have b1 := b i
    have b2 := b j
    unfold IntMulOk
    intro q
    simp only [Bool.and_eq_true, decide_eq_true_eq] at q
    have q3 := q.2
    unfold Builtin.Int.intTooBig at q3
    simp only [decide_eq_true_eq] at q3
    have e27 : bitsLine = 134217728 := by decide
    rw [e27] at q3
    omega
theorem op_mulA : OpR X (binaryOp .Mult) (rI IntMulOk fun i j => .int (i * j)) := opI fun _ _ _ _ _ _ _ hc q => mul_int q hc
theorem oq_sub : OpQ X T ca xa (bin .sub) (rI0 fun i j => .int (i - j)) := by
  intro W σ G H x y da db Q s rx ry p
  cases da with
  | int i => cases db with
    | int j => exact ⟨i, j, rx.int, ry.int, post_val s p (.int _)⟩
    | _ => exact False.elim p
  | _ => cases db <;> exact False.elim p
theorem oq_mul : OpQ X T ca xa (bin .mul) (fun x y H Q => rI IntMulOk (fun i j => .int (i * j)) x y H Q ∨ rRep x y H Q) := by
  intro W σ G H x y da db Q s rx ry p
  cases da with
  | int i => cases db with
    | int j =>
      simp only [bin] at p
      by_cases h : mulOk i j = true
      · rw [if_pos h] at p
        exact .inl ⟨i, j, rx.int, ry.int, mulOk_ok h, post_val s p (.int _)⟩
      · rw [if_neg h] at p; exact False.elim p
    | _ => exact False.elim p
  | lst ds => cases db with
    | int j =>
      simp only [bin] at p
      by_cases h : -(2 ^ 63) ≤ j ∧ j < 2 ^ 63 ∧ ds.length * j.toNat ≤ SL
      · rw [if_pos h] at p
        obtain ⟨a, vs, rfl, h1, r1⟩ := rx.lst s
        exact .inr ⟨a, j, vs, rfl, ry.int, h1, h.1, h.2.1, by rw [sizeLine_eq, r1.length]; exact h.2.2, fun q hq => post_own s p (r1.rep _) hq⟩
      · rw [if_neg h] at p; exact False.elim p
    | _ => exact False.elim p
  | _ => cases db <;> exact False.elim p
/-- what a division of great numbers asks of where it stands: nobody hears of _pylong, and there is room -/
structure WdX (X : Cx) : Prop where
  stat : ∃ mc, X.base.Ns cStatics mc ∧ mc "sys.audit-hooks" = none ∧ mc "sys.dict" = none
  mods : ∃ mm, X.base.Ns sysModules mm ∧ mm "_pylong" = none
  main : ∃ mg bm ob, X.base.Ns mainGlobals mg ∧ mg "__builtins__" = some (.ref bm) ∧ X.base.get? bm = some ob ∧ ob.cls = .type "module" ∧ ob.dict = some builtinsNs
  tree : X.prog.given.tree = none
  top : ∃ env l, X.stack = env :: l ∧ env.scope.isGenerator = false ∧ env.scope.isCoroutine = false ∧ env.builtins = builtinsNs ∧ env.globals = mainGlobals
  dep : X.A.depth + 100 < recursionLimit
theorem WdX.room (w : WdX X) {pins : List (Addr × Obj)} {σ : St} {H : Hp} {s : Shared} (I : Inv X pins σ H s) : PySem.PylongRoom (model X.prog X.w) X.A s := by
  have hN : s.heap.NoSeer := Heap.NoSeer.keeps (⟨w.stat, w.mods, I.ok.mod.blt, w.main⟩ : X.base.NoSeer) I.bk
  obtain ⟨env, l, e, h1, h2, h3, h4⟩ := w.top
  exact PySem.PylongRoom.of I.nolimit w.dep (PySem.SeerAt.of (l := l) hN w.tree (by rw [I.ok.frames, e]) h1 h2 h3 h4)
theorem op_fdivA (wd : WdX X) : OpR X (binaryOp .FloorDiv) (rI (fun _ j => j ≠ 0) fun i j => .int (i.fdiv j)) := by
  intro pins s σ H x y v u Q I rx ry h
  obtain ⟨i, j, rfl, rfl, hc, q⟩ := h
  obtain ⟨t, rfl⟩ := rx
  obtain ⟨t', rfl⟩ := ry
  exact floordiv_int hc ⟨.int (i.fdiv j), H, I.tok _, ⟨_, rfl⟩, q⟩ (.inr (wd.room I))
theorem oq_fdiv : OpQ X T ca xa (bin .fdiv) (rI (fun _ j => j ≠ 0) fun i j => .int (i.fdiv j)) := by
  intro W σ G H x y da db Q s rx ry p
  cases da with
  | int i => cases db with
    | int j =>
      simp only [bin] at p
      by_cases h : divOk j = true
      · rw [if_pos h] at p
        unfold divOk at h
        exact ⟨i, j, rx.int, ry.int, of_decide_eq_true h, post_val s p (.int _)⟩
      · rw [if_neg h] at p; exact False.elim p
    | _ => exact False.elim p
  | _ => cases db <;> exact False.elim p
theorem oq_mod : OpQ X T ca xa (bin .mod) (rI (fun _ j => j ≠ 0) fun i j => .int (i.fmod j)) := by
  intro W σ G H x y da db Q s rx ry p
  cases da with
  | int i => cases db with
    | int j =>
      simp only [bin] at p
      by_cases h : j = 0
      · rw [if_pos h] at p; exact False.elim p
      · rw [if_neg h] at p
        exact ⟨i, j, rx.int, ry.int, h, post_val s p (.int _)⟩
    | _ => exact False.elim p
  | _ => cases db <;> exact False.elim p
theorem oq_pow : OpQ X T ca xa (bin .pow) (rI CPow fun i j => .int (i ^ j.toNat)) := by
  intro W σ G H x y da db Q s rx ry p
  cases da with
  | int i => cases db with
    | int j =>
      simp only [bin] at p
      by_cases h : powOk i j = true
      · rw [if_pos h] at p
        unfold powOk at h
        simp only [Bool.and_eq_true, decide_eq_true_eq] at h
        exact ⟨i, j, rx.int, ry.int, ⟨h.1, h.2.1, h.2.2⟩, post_val s p (.int _)⟩
      · rw [if_neg h] at p; exact False.elim p
    | _ => exact False.elim p
  | _ => cases db <;> exact False.elim p
/-- the operator of the text -/
def opOf : O2 → Operator
  | .add => .Add
  | .sub => .Sub
  | .mul => .Mult
  | .fdiv => .FloorDiv
  | .mod => .Mod
  | .pow => .Pow
theorem s_bin {o : O2} (wd : WdX X) (ha : SQ X T ca xa cx G0 H0 W a fa) (hb : SQ X T ca xa cx G0 H0 W b fb) : SE X T ca xa cx G0 H0 W (.BinOp a (opOf o) b pos) fun env => (fa env).bind fun x => (fb env).bind fun y => bin o x y := by
  cases o with
  | add => exact s_two oq_add ha hb fun p q => pe_op (op_add.or (op_add_str.or (op_cat.or op_catT))) p q
  | sub => exact s_two oq_sub ha hb fun p q => pe_op op_sub p q
  | mul => exact s_two oq_mul ha hb fun p q => pe_op (op_mulA.or op_rep) p q
  | fdiv => exact s_two oq_fdiv ha hb fun p q => pe_op (op_fdivA wd) p q
  | mod => exact s_two oq_mod ha hb fun p q => pe_op op_modN p q
  | pow => exact s_two oq_pow ha hb fun p q => pe_op op_pow p q
end
end PL

set_option linter.all false
set_option Elab.async false
set_option maxRecDepth 100000
set_option maxHeartbeats 4000000
/-! Soundness, part 3: comparisons, tests, items, built-ins. -/
namespace PL
open PySem PySem.Spec PyProof.Rows L2
def cmpOf : OC → CmpOp
  | .eq => .Eq
  | .ne => .NotEq
  | .lt => .Lt
  | .le => .LtE
  | .gt => .Gt
  | .ge => .GtE
  | .isN => .Is
  | .notN => .IsNot
  | .isin => .In
  | .notin => .NotIn
section
variable {X : Cx} {T : Tab} {ca xa : Nat → Addr} {cx : Hand} {G0 H0 : Hp} {W : WX} {a b c d : Expr} {fa fb fc fd : Env → Res D} {pos : Pos}
/-- what a comparison asks -/
def RC (P : Par) (o : OC) : R2 := fun x y H Q => ∃ G da db k, Same G H ∧ RP P H G H x da ∧ RP P H G H y db ∧ cmp o da db = .ok k ∧ Q (.bl k) H
theorem op_via {f : Value → Value → Sem Value} {r r' : R2} (h : OpR X f r) (i : ∀ x y H Q, r' x y H Q → r x y H Q) : OpR X f r' := fun pins s σ H x y v u Q I rx ry q => h pins s σ H x y v u Q I rx ry (i x y H Q q)
theorem flat_all {P : Par} {G : Hp} : ∀ {vs : List V} {ds : List D}, Reps P G vs ds → ds.all flatD = true → vs.all flatV = true
  | _, _, .nil, _ => rfl
  | _, _, .cons h r, e => by
    simp only [List.all_cons, Bool.and_eq_true] at e ⊢
    refine ⟨?_, flat_all r e.2⟩
    cases h <;> first | rfl | (simp [flatD] at e)
theorem eqV_eqD {P : Par} {G : Hp} {v w : V} {d e : D} (h : Rep P G v d) (h' : Rep P G w e) (f : flatD d = true) (f' : flatD e = true) : eqV v w = eqD d e := by
  cases h <;> cases h' <;> first | rfl | (simp [flatD] at f) | (simp [flatD] at f') | (simp [eqV, eqD])
theorem inV_any {P : Par} {G : Hp} {w : V} {e : D} (h' : Rep P G w e) (f' : flatD e = true) : ∀ {vs : List V} {ds : List D}, Reps P G vs ds → ds.all flatD = true → inV w vs = ds.any fun y => eqD y e
  | _, _, .nil, _ => rfl
  | _, _, .cons h r, q => by
    simp only [List.all_cons, Bool.and_eq_true] at q
    have ih := inV_any h' f' r q.2
    unfold inV at ih ⊢
    simp only [List.any_cons]
    rw [ih, eqV_eqD h h' q.1 f']
theorem any_toP {d : D} {n : Nat} (h : eqOk n d = true) : ∀ (ds : List D) (m : Nat), eqOks m ds = true → ((toPs ds).any fun z => PyData.eqv z (toP d)) = ds.any fun y => eqD y d
  | [], _, _ => rfl
  | x :: xs, m, q => by
    simp only [eqOks, Bool.and_eq_true] at q
    simp only [toPs, List.any_cons]
    rw [any_toP h xs m q.2, eqD_toP x d m n q.1 h]
theorem RP.rep {P : Par} {H0 G H : Hp} {v : V} {d : D} (h : RP P H0 G H v d) (f : flatD d = true) : Rep P G v d := by
  rcases h with h | ⟨_, _, _, _, rfl, _⟩
  · exact h
  · simp [flatD] at f
/-- is, is not of True and False -/
theorem op_isB {X : Cx} : OpR X (compareOp .Is) (fun x y H Q => ∃ a b, x = .bl a ∧ y = .bl b ∧ Q (.bl (a == b)) H) := by
  intro pins s σ H x y v u Q I rx ry h
  obtain ⟨a, b, rfl, rfl, q⟩ := h
  cases rx
  cases ry
  refine (?_ : wpAny (model X.prog X.w) X.A (compareOp .Is (.bool a) (.bool b)) _ _ s)
  have e : (EP X pins σ Q) (.bool (a == b)) s := ⟨.bl (a == b), H, I, rfl, q⟩
  cases a <;> cases b <;> exact wpAny_pure e
theorem op_notB {X : Cx} : OpR X (compareOp .IsNot) (fun x y H Q => ∃ a b, x = .bl a ∧ y = .bl b ∧ Q (.bl (!(a == b))) H) := by
  intro pins s σ H x y v u Q I rx ry h
  obtain ⟨a, b, rfl, rfl, q⟩ := h
  cases rx
  cases ry
  refine (?_ : wpAny (model X.prog X.w) X.A (compareOp .IsNot (.bool a) (.bool b)) _ _ s)
  have e : (EP X pins σ Q) (.bool (!(a == b))) s := ⟨.bl (!(a == b)), H, I, rfl, q⟩
  cases a <;> cases b <;> exact wpAny_pure e
theorem op_cmp (hu : X.A.units + 66 < cLine) (o : OC) : OpR X (compareOp (cmpOf o)) (RC (PX X T ca xa) o) := by
  have hu1 : X.A.units + 64 < cLine := by omega
  have hu2 : X.A.units + 65 < cLine := by omega
  cases o with
  | eq =>
    refine op_via (op_eqD hu1) fun x y H Q ⟨G, da, db, k, s, rx, ry, e, q⟩ => ?_
    simp only [cmp] at e
    split at e
    · rename_i h
      simp only [Bool.and_eq_true] at h
      cases e
      exact ⟨_, _, rx.dp s h.1, ry.dp s h.2, shaped_of h.1, shaped_of h.2, by rw [eqD_toP _ _ _ _ h.1 h.2]; exact q⟩
    · cases e
  | ne =>
    refine op_via (op_neD hu1) fun x y H Q ⟨G, da, db, k, s, rx, ry, e, q⟩ => ?_
    simp only [cmp] at e
    split at e
    · rename_i h
      simp only [Bool.and_eq_true] at h
      cases e
      exact ⟨_, _, rx.dp s h.1, ry.dp s h.2, shaped_of h.1, shaped_of h.2, by rw [eqD_toP _ _ _ _ h.1 h.2]; exact q⟩
    · cases e
  | lt =>
    refine op_via (op_lt.or op_lt_str) fun x y H Q ⟨G, da, db, k, s, rx, ry, e, q⟩ => ?_
    cases da <;> cases db <;> first
      | (cases e; exact .inl ⟨_, _, rx.int, ry.int, q⟩)
      | (cases e; exact .inr ⟨_, _, rx.str, ry.str, q⟩)
      | cases e
  | le =>
    refine op_via op_le fun x y H Q ⟨G, da, db, k, s, rx, ry, e, q⟩ => ?_
    cases da <;> cases db <;> first
      | (cases e; exact ⟨_, _, rx.int, ry.int, q⟩)
      | cases e
  | gt =>
    refine op_via op_gt fun x y H Q ⟨G, da, db, k, s, rx, ry, e, q⟩ => ?_
    cases da <;> cases db <;> first
      | (cases e; exact ⟨_, _, rx.int, ry.int, q⟩)
      | cases e
  | ge =>
    refine op_via op_ge fun x y H Q ⟨G, da, db, k, s, rx, ry, e, q⟩ => ?_
    cases da <;> cases db <;> first
      | (cases e; exact ⟨_, _, rx.int, ry.int, q⟩)
      | cases e
  | isN =>
    refine op_via (op_isN.or op_isB) fun x y H Q ⟨G, da, db, k, s, rx, ry, e, q⟩ => ?_
    cases db with
    | non =>
      refine .inl ⟨ry.non, ?_⟩
      have key : decide (x = V.non) = k := by
        cases da <;> cases e <;> first
          | (rw [rx.non]; rfl)
          | (rcases rx with h | ⟨_, _, _, rfl, _⟩
             · cases h <;> rfl
             · rfl)
      rw [key]
      exact q
    | bl b =>
      cases da with
      | bl a => cases e; exact .inr ⟨a, b, rx.bl, ry.bl, q⟩
      | _ => simp [cmp] at e
    | _ => cases da <;> simp [cmp] at e
  | notN =>
    refine op_via (op_notN.or op_notB) fun x y H Q ⟨G, da, db, k, s, rx, ry, e, q⟩ => ?_
    cases db with
    | non =>
      refine .inl ⟨ry.non, ?_⟩
      have key : (!decide (x = V.non)) = k := by
        cases da <;> cases e <;> first
          | (rw [rx.non]; rfl)
          | (rcases rx with h | ⟨_, _, _, rfl, _⟩
             · cases h <;> rfl
             · rfl)
      rw [key]
      exact q
    | bl b =>
      cases da with
      | bl a => cases e; exact .inr ⟨a, b, rx.bl, ry.bl, q⟩
      | _ => simp [cmp] at e
    | _ => cases da <;> simp [cmp] at e
  | isin =>
    refine op_via (op_in_seq.or ((op_inD hu2).or op_in_sign)) fun x y H Q ⟨G, da, db, k, s, rx, ry, e, q⟩ => ?_
    cases db with
    | str z =>
      cases da with
      | str w =>
        simp only [cmp] at e
        split at e
        · cases e
          exact .inr (.inr ⟨_, z, rx.str, ry.str, q⟩)
        · cases e
      | _ => cases e
    | lst ys =>
      have e' : (if (eqOk 60 da && eqOk 60 (.lst ys)) = true then Res.ok (ys.any fun y => eqD y da) else Res.bad) = Res.ok k := by cases da <;> exact e
      split at e'
      · rename_i h
        simp only [Bool.and_eq_true] at h
        cases e'
        have h3 : eqOks 59 ys = true := h.2
        refine .inr (.inl ⟨_, toPs ys, rx.dp s h.1, ry.dp s h.2, shaped_of h.1, shaped_of h.2, ?_⟩)
        rw [any_toP h.1 ys 59 h3]
        exact q
      · cases e'
    | tup ys =>
      have e' : (if (flatD da && ys.all flatD) = true then Res.ok (ys.any fun y => eqD y da) else Res.bad) = Res.ok k := by cases da <;> exact e
      split at e'
      · rename_i h
        simp only [Bool.and_eq_true] at h
        cases e'
        obtain ⟨p, vs, rfl, h1, r⟩ := ry.tup
        have rr := rx.rep h.1
        have fx : flatV x = true := by
          have f := h.1
          cases rr <;> first | rfl | (simp [flatD] at f)
        refine .inl ⟨p, vs, rfl, .inr (SqT.of (s _ _ h1)), fx, flat_all r h.2, ?_⟩
        rw [if_neg (by decide), inV_any rr h.1 r h.2]
        exact q
      · cases e'
    | _ => cases da <;> cases e
  | notin =>
    refine op_via (op_notIn_seq.or ((op_notInD hu2).or op_notIn_sign)) fun x y H Q ⟨G, da, db, k, s, rx, ry, e, q⟩ => ?_
    cases db with
    | str z =>
      cases da with
      | str w =>
        simp only [cmp] at e
        split at e
        · cases e
          exact .inr (.inr ⟨_, z, rx.str, ry.str, q⟩)
        · cases e
      | _ => cases e
    | lst ys =>
      have e' : (if (eqOk 60 da && eqOk 60 (.lst ys)) = true then Res.ok (!ys.any fun y => eqD y da) else Res.bad) = Res.ok k := by cases da <;> exact e
      split at e'
      · rename_i h
        simp only [Bool.and_eq_true] at h
        cases e'
        have h3 : eqOks 59 ys = true := h.2
        refine .inr (.inl ⟨_, toPs ys, rx.dp s h.1, ry.dp s h.2, shaped_of h.1, shaped_of h.2, ?_⟩)
        rw [any_toP h.1 ys 59 h3]
        exact q
      · cases e'
    | tup ys =>
      have e' : (if (flatD da && ys.all flatD) = true then Res.ok (!ys.any fun y => eqD y da) else Res.bad) = Res.ok k := by cases da <;> exact e
      split at e'
      · rename_i h
        simp only [Bool.and_eq_true] at h
        cases e'
        obtain ⟨p, vs, rfl, h1, r⟩ := ry.tup
        have rr := rx.rep h.1
        have fx : flatV x = true := by
          have f := h.1
          cases rr <;> first | rfl | (simp [flatD] at f)
        refine .inl ⟨p, vs, rfl, .inr (SqT.of (s _ _ h1)), fx, flat_all r h.2, ?_⟩
        rw [if_pos rfl, inV_any rr h.1 r h.2]
        exact q
      · cases e'
    | _ => cases da <;> cases e
/-- from a post about a comparison -/
theorem rc_of {P : Par} {W : WX} {σ : St} {G H : Hp} {o : OC} {da db : D} {x y : V} {Q : VK} (s : Same G H) (rx : RP P H G H x da) (ry : RP P H G H y db) (p : Post P W σ G H RB (cmp o da db) fun k H' => Q (.bl k) H') : RC P o x y H Q := by
  cases e : cmp o da db with
  | ok k => rw [e] at p; exact ⟨G, da, db, k, s, rx, ry, e, p k H G (Step.refl s) rfl⟩
  | err k fs =>
    exfalso
    cases o <;> cases da <;> cases db <;> simp [cmp] at e <;> (repeat' split at e) <;> simp_all
  | bad => rw [e] at p; exact False.elim p
theorem mark_of {op : OC} {e : Expr} (h : behindInMarks (cmpOf op) e = false) : behindInMarks (cmpOf op) e = false := h
theorem post_ofB {P : Par} {W : WX} {σ : St} {G H : Hp} {r : Res Bool} {Q : VK} (s : Same G H) (p : Post P W σ G H (RV P) (ofB r) Q) : Post P W σ G H RB r fun k H' => Q (.bl k) H' := by
  cases r with
  | ok b =>
    intro k H' G' st e
    have e : k = b := e
    subst e
    exact p (.bl k) H' G' st (.bl k)
  | err k fs => exact p
  | bad => exact p
theorem s_cmp {o : OC} (hu : X.A.units + 66 < cLine) (ha : SP' X T ca xa cx G0 H0 W a fa) (hb : SP' X T ca xa cx G0 H0 W b fb) (hm : behindInMarks (cmpOf o) b = false) :
    SE X T ca xa cx G0 H0 W (.Compare a [cmpOf o] [b] pos) fun env => (fa env).bind fun x => (fb env).bind fun y => ofB (cmp o x y) :=
  (pe_cmpR (op_cmp hu o) ha hb hm).imp fun σ H Q ⟨G, env, rel, p⟩ => ⟨G, env, rel, Post.bind anti_RV p fun da x H1 G1 s1 r1 q1 => ⟨G1, env, rel.step s1, Post.bind anti_RV q1 fun db y H2 G2 s2 r2 q2 =>
    rc_of s2.gh (r1.step s2) r2 (post_ofB s2.gh q2)⟩⟩
theorem t_cmp {o : OC} (hu : X.A.units + 66 < cLine) (ha : SP' X T ca xa cx G0 H0 W a fa) (hb : SP' X T ca xa cx G0 H0 W b fb) (hm : behindInMarks (cmpOf o) b = false) :
    ST X T ca xa cx G0 H0 W (.Compare a [cmpOf o] [b] pos) fun env => (fa env).bind fun x => (fb env).bind fun y => cmp o x y :=
  (pt_cmpR (op_cmp hu o) ha hb hm).imp fun σ H Q ⟨G, env, rel, p⟩ => ⟨G, env, rel, Post.bind anti_RB p fun da x H1 G1 s1 r1 q1 => ⟨G1, env, rel.step s1, Post.bind anti_RB q1 fun db y H2 G2 s2 r2 q2 =>
    rc_of s2.gh (r1.step s2) r2 (q2.imp fun k k' H' G' st e _ q => ⟨_, rfl, q⟩)⟩⟩
theorem s_ch2 {o o' : OC} (hu : X.A.units + 66 < cLine) (ha : SP' X T ca xa cx G0 H0 W a fa) (hb : SP' X T ca xa cx G0 H0 W b fb) (hc : SP' X T ca xa cx G0 H0 W c fc) (hm : lastMarks [cmpOf o, cmpOf o'] [b, c] = false) :
    SE X T ca xa cx G0 H0 W (.Compare a [cmpOf o, cmpOf o'] [b, c] pos) fun env => (fa env).bind fun x => (fb env).bind fun y => (cmp o x y).bind fun k => if k = true then (fc env).bind fun z => ofB (cmp o' y z) else .ok (.val (.bl false)) :=
  (pe_chain (op_cmp hu o) (op_cmp hu o') ha hb hc hm).imp fun σ H Q ⟨G, env, rel, p⟩ => ⟨G, env, rel, Post.bind anti_RV p fun da x H1 G1 s1 r1 q1 => ⟨G1, env, rel.step s1, Post.bind anti_RV q1 fun db y H2 G2 s2 r2 q2 =>
    rc_of s2.gh (r1.step s2) r2 (Post.bind (R1 := RB) anti_RV q2 fun k k' H3 G3 s3 e q3 => by
      have e : k' = k := e
      subst e
      refine ⟨_, rfl, ?_⟩
      cases k' with
      | true => exact ⟨G3, env, ((rel.step s1).step s2).step s3, Post.bind anti_RV q3 fun dc z H4 G4 s4 r4 q4 => rc_of s4.gh ((r2.step s3).step s4) r4 (post_ofB s4.gh q4)⟩
      | false => exact post_val s3.gh q3 (.bl false))⟩⟩
theorem t_ch2 {o o' : OC} (hu : X.A.units + 66 < cLine) (ha : SP' X T ca xa cx G0 H0 W a fa) (hb : SP' X T ca xa cx G0 H0 W b fb) (hc : SP' X T ca xa cx G0 H0 W c fc) (hm : lastMarks [cmpOf o, cmpOf o'] [b, c] = false) :
    ST X T ca xa cx G0 H0 W (.Compare a [cmpOf o, cmpOf o'] [b, c] pos) fun env => (fa env).bind fun x => (fb env).bind fun y => (cmp o x y).bind fun k => if k = true then (fc env).bind fun z => cmp o' y z else .ok false :=
  (pt_chain (op_cmp hu o) (op_cmp hu o') ha hb hc hm).imp fun σ H Q ⟨G, env, rel, p⟩ => ⟨G, env, rel, Post.bind anti_RB p fun da x H1 G1 s1 r1 q1 => ⟨G1, env, rel.step s1, Post.bind anti_RB q1 fun db y H2 G2 s2 r2 q2 =>
    rc_of s2.gh (r1.step s2) r2 (Post.bind (R1 := RB) anti_RB q2 fun k k' H3 G3 s3 e q3 => by
      have e : k' = k := e
      subst e
      refine ⟨_, rfl, ?_⟩
      cases k' with
      | true => exact ⟨G3, env, ((rel.step s1).step s2).step s3, Post.bind anti_RB q3 fun dc z H4 G4 s4 r4 q4 => rc_of s4.gh ((r2.step s3).step s4) r4 (q4.imp fun k k' H' G' st e _ q => ⟨_, rfl, q⟩)⟩
      | false => exact ⟨false, rfl, q3 false H3 G3 (Step.refl s3.gh) rfl⟩)⟩⟩
/-- a op1 b op2 c op3 d -/
def tChain3 (r r' r'' : R2) (ta tb tc td : TE) : TE := fun σ H Q => ta σ H fun x H1 => tb σ H1 fun y H2 => r x y H2 fun z H3 => ∃ k, z = .bl k ∧
  (if k = true then tc σ H3 fun w H4 => r' y w H4 fun z' H5 => ∃ k', z' = .bl k' ∧ (if k' = true then td σ H5 fun u H6 => r'' w u H6 Q else Q (.bl false) H5) else Q (.bl false) H3)
theorem pe_chain3 {op op' op'' : CmpOp} {r r' r'' : R2} {ta tb tc td : TE} (ho : OpR X (compareOp op) r) (ho' : OpR X (compareOp op') r') (ho'' : OpR X (compareOp op'') r'') (ha : PE X a ta) (hb : PE X b tb) (hc : PE X c tc) (hd : PE X d td)
    (hm : lastMarks [op, op', op''] [b, c, d] = false) : PE X (.Compare a [op, op', op''] [b, c, d] pos) (tChain3 r r' r'' ta tb tc td) := by
  refine ⟨fun pins s σ H Q I h => Compare_chain (thn (ha.run pins s σ H _ I h) fun v s1 h1 => ?_) hm⟩
  obtain ⟨x, H1, I1, r1, q1⟩ := h1
  refine chain_link (thn (hb.run pins s1 σ H1 _ I1 q1) fun u s2 h2 => ?_)
  obtain ⟨y, H2, I2, r2, q2⟩ := h2
  refine thn (ho pins s2 σ H2 x y v u _ I2 r1 r2 q2) fun e s3 h3 => ?_
  obtain ⟨z, H3, I3, r3, k, ez, q3⟩ := h3
  subst ez
  cases r3
  refine wpAny_truthy_bool ?_
  cases k with
  | false => exact ite_ff ⟨.bl false, H3, I3, rfl, q3⟩
  | true =>
    refine ite_tt (chain_link (thn (hc.run pins s3 σ H3 _ I3 q3) fun w s4 h4 => ?_))
    obtain ⟨y', H4, I4, r4, q4⟩ := h4
    refine thn (ho' pins s4 σ H4 y y' u w _ I4 r2 r4 q4) fun e' s5 h5 => ?_
    obtain ⟨z', H5, I5, r5, k', ez', q5⟩ := h5
    subst ez'
    cases r5
    refine wpAny_truthy_bool ?_
    cases k' with
    | false => exact ite_ff ⟨.bl false, H5, I5, rfl, q5⟩
    | true =>
      refine ite_tt (chain_last (thn (hd.run pins s5 σ H5 _ I5 q5) fun w' s6 h6 => ?_))
      obtain ⟨z6, H6, I6, r6, q6⟩ := h6
      exact ho'' pins s6 σ H6 y' z6 w w' Q I6 r4 r6 q6
theorem pt_chain3 {op op' op'' : CmpOp} {r r' r'' : R2} {ta tb tc td : TE} (ho : OpR X (compareOp op) r) (ho' : OpR X (compareOp op') r') (ho'' : OpR X (compareOp op'') r'') (ha : PE X a ta) (hb : PE X b tb) (hc : PE X c tc) (hd : PE X d td)
    (hm : lastMarks [op, op', op''] [b, c, d] = false) : PT X (.Compare a [op, op', op''] [b, c, d] pos) (tTest (tChain3 r r' r'' ta tb tc td)) := by
  refine ⟨fun pins s σ H Q I h => isTrue_chain (thn (ha.run pins s σ H _ I h) fun v s1 h1 => ?_) hm⟩
  obtain ⟨x, H1, I1, r1, q1⟩ := h1
  refine test_link (thn (hb.run pins s1 σ H1 _ I1 q1) fun u s2 h2 => ?_)
  obtain ⟨y, H2, I2, r2, q2⟩ := h2
  refine thn (ho pins s2 σ H2 x y v u _ I2 r1 r2 q2) fun e s3 h3 => ?_
  obtain ⟨z, H3, I3, r3, k, ez, q3⟩ := h3
  subst ez
  cases r3
  refine wpAny_truthy_bool ?_
  cases k with
  | false =>
    obtain ⟨kk, ek, qk⟩ := q3
    cases ek
    exact ite_ff ⟨H3, I3, qk⟩
  | true =>
    refine ite_tt (test_link (thn (hc.run pins s3 σ H3 _ I3 q3) fun w s4 h4 => ?_))
    obtain ⟨y', H4, I4, r4, q4⟩ := h4
    refine thn (ho' pins s4 σ H4 y y' u w _ I4 r2 r4 q4) fun e' s5 h5 => ?_
    obtain ⟨z', H5, I5, r5, k', ez', q5⟩ := h5
    subst ez'
    cases r5
    refine wpAny_truthy_bool ?_
    cases k' with
    | false =>
      obtain ⟨kk, ek, qk⟩ := q5
      cases ek
      exact ite_ff ⟨H5, I5, qk⟩
    | true =>
      refine ite_tt (test_last (thn (hd.run pins s5 σ H5 _ I5 q5) fun w' s6 h6 => ?_))
      obtain ⟨z6, H6, I6, r6, q6⟩ := h6
      refine thn (ho'' pins s6 σ H6 y' z6 w w' _ I6 r4 r6 q6) fun e6 s7 h7 => ?_
      obtain ⟨z7, H7, I7, r7, k7, e7, q7⟩ := h7
      subst e7
      cases r7
      exact wpAny_truthy_bool ⟨H7, I7, q7⟩
theorem s_ch3 {o o' o'' : OC} (hu : X.A.units + 66 < cLine) (ha : SP' X T ca xa cx G0 H0 W a fa) (hb : SP' X T ca xa cx G0 H0 W b fb) (hc : SP' X T ca xa cx G0 H0 W c fc) (hd : SP' X T ca xa cx G0 H0 W d fd) (hm : lastMarks [cmpOf o, cmpOf o', cmpOf o''] [b, c, d] = false) :
    SE X T ca xa cx G0 H0 W (.Compare a [cmpOf o, cmpOf o', cmpOf o''] [b, c, d] pos) fun env => (fa env).bind fun x => (fb env).bind fun y => (cmp o x y).bind fun k => if k = true then (fc env).bind fun z => (cmp o' y z).bind fun l =>
      if l = true then (fd env).bind fun w => ofB (cmp o'' z w) else .ok (.val (.bl false)) else .ok (.val (.bl false)) :=
  (pe_chain3 (op_cmp hu o) (op_cmp hu o') (op_cmp hu o'') ha hb hc hd hm).imp fun σ H Q ⟨G, env, rel, p⟩ => ⟨G, env, rel, Post.bind anti_RV p fun da x H1 G1 s1 r1 q1 => ⟨G1, env, rel.step s1, Post.bind anti_RV q1 fun db y H2 G2 s2 r2 q2 =>
    rc_of s2.gh (r1.step s2) r2 (Post.bind (R1 := RB) anti_RV q2 fun k k' H3 G3 s3 e q3 => by
      have e : k' = k := e
      subst e
      refine ⟨_, rfl, ?_⟩
      cases k' with
      | true =>
        refine ⟨G3, env, ((rel.step s1).step s2).step s3, Post.bind anti_RV q3 fun dc z H4 G4 s4 r4 q4 => rc_of s4.gh ((r2.step s3).step s4) r4 (Post.bind (R1 := RB) anti_RV q4 fun l l' H5 G5 s5 e5 q5 => ?_)⟩
        have e5 : l' = l := e5
        subst e5
        refine ⟨_, rfl, ?_⟩
        cases l' with
        | true => exact ⟨G5, env, ((((rel.step s1).step s2).step s3).step s4).step s5, Post.bind anti_RV q5 fun dd w H6 G6 s6 r6 q6 => rc_of s6.gh ((r4.step s5).step s6) r6 (post_ofB s6.gh q6)⟩
        | false => exact post_val s5.gh q5 (.bl false)
      | false => exact post_val s3.gh q3 (.bl false))⟩⟩
theorem t_ch3 {o o' o'' : OC} (hu : X.A.units + 66 < cLine) (ha : SP' X T ca xa cx G0 H0 W a fa) (hb : SP' X T ca xa cx G0 H0 W b fb) (hc : SP' X T ca xa cx G0 H0 W c fc) (hd : SP' X T ca xa cx G0 H0 W d fd) (hm : lastMarks [cmpOf o, cmpOf o', cmpOf o''] [b, c, d] = false) :
    ST X T ca xa cx G0 H0 W (.Compare a [cmpOf o, cmpOf o', cmpOf o''] [b, c, d] pos) fun env => (fa env).bind fun x => (fb env).bind fun y => (cmp o x y).bind fun k => if k = true then (fc env).bind fun z => (cmp o' y z).bind fun l =>
      if l = true then (fd env).bind fun w => cmp o'' z w else .ok false else .ok false :=
  (pt_chain3 (op_cmp hu o) (op_cmp hu o') (op_cmp hu o'') ha hb hc hd hm).imp fun σ H Q ⟨G, env, rel, p⟩ => ⟨G, env, rel, Post.bind anti_RB p fun da x H1 G1 s1 r1 q1 => ⟨G1, env, rel.step s1, Post.bind anti_RB q1 fun db y H2 G2 s2 r2 q2 =>
    rc_of s2.gh (r1.step s2) r2 (Post.bind (R1 := RB) anti_RB q2 fun k k' H3 G3 s3 e q3 => by
      have e : k' = k := e
      subst e
      refine ⟨_, rfl, ?_⟩
      cases k' with
      | true =>
        refine ⟨G3, env, ((rel.step s1).step s2).step s3, Post.bind anti_RB q3 fun dc z H4 G4 s4 r4 q4 => rc_of s4.gh ((r2.step s3).step s4) r4 (Post.bind (R1 := RB) anti_RB q4 fun l l' H5 G5 s5 e5 q5 => ?_)⟩
        have e5 : l' = l := e5
        subst e5
        refine ⟨_, rfl, ?_⟩
        cases l' with
        | true => exact ⟨G5, env, ((((rel.step s1).step s2).step s3).step s4).step s5, Post.bind anti_RB q5 fun dd w H6 G6 s6 r6 q6 => rc_of s6.gh ((r4.step s5).step s6) r6 (q6.imp fun k k' H' G' st e _ q => ⟨_, rfl, q⟩)⟩
        | false => exact ⟨false, rfl, q5 false H5 G5 (Step.refl s5.gh) rfl⟩
      | false => exact ⟨false, rfl, q3 false H3 G3 (Step.refl s3.gh) rfl⟩)⟩⟩

/-! ### tests -/
theorem tru_of {P : Par} {H0 G H : Hp} {v : V} {d : D} {k : Bool} (s : Same G H) (r : RP P H0 G H v d) (e : truth d = .ok k) : TruV P.K v H k := by
  cases d with
  | non => rw [r.non]; cases e; rfl
  | bl b => rw [r.bl]; cases e; rfl
  | int i => rw [r.int]; cases e; rfl
  | str x =>
    rw [r.str]
    simp only [truth] at e
    split at e
    · rename_i h
      cases e
      exact ⟨by rw [sizeLine_eq]; exact h, rfl⟩
    · cases e
  | lst ds =>
    obtain ⟨p, vs, rfl, h, rr⟩ := r.lst s
    cases e
    refine .inl ⟨vs, h, ?_⟩
    have := rr.length
    cases vs <;> cases ds <;> simp_all
  | tup ds =>
    obtain ⟨p, vs, rfl, h, rr⟩ := r.tup
    cases e
    refine .inr (.inl ⟨vs, SqT.of (s _ _ h), ?_⟩)
    have := rr.length
    cases vs <;> cases ds <;> simp_all
  | ins _ _ => cases e
theorem s_not (ha : SE X T ca xa cx G0 H0 W a f) : SE X T ca xa cx G0 H0 W (.UnaryOp .Not a pos) fun env => (f env).bind fun x => (truthV x).bind fun b => .ok (.val (.bl (!b))) :=
  (pe_notT ha).imp fun σ H Q ⟨G, env, rel, p⟩ => ⟨G, env, rel, Post.bind anti_RV p fun r x H1 G1 s1 r1 q1 => by
    cases r with
    | own ds => exact False.elim q1
    | val d =>
      cases e : truth d with
      | ok k =>
        simp only [truthV, e, Res.bind_ok] at q1
        exact ⟨k, tru_of (H0 := H0) s1.gh (.inl r1) e, post_val s1.gh q1 (.bl _)⟩
      | err c fs =>
        cases d <;> simp [truth] at e
        split at e <;> cases e
      | bad =>
        simp only [truthV, e] at q1
        exact False.elim q1⟩
theorem t_val (ha : SP' X T ca xa cx G0 H0 W a fa) (he : ∀ whole, isTrue a X.env whole = (do let v ← whole; standAt a.pos; holding [v] (truthy v))) : ST X T ca xa cx G0 H0 W a fun env => (fa env).bind truth :=
  (pt_truth ha he).imp fun σ H Q ⟨G, env, rel, p⟩ => ⟨G, env, rel, Post.bind anti_RB p fun da x H1 G1 s1 r1 q1 => by
    cases e : truth da with
    | ok k => rw [e] at q1; exact ⟨k, tru_of s1.gh r1 e, q1 k H1 G1 (Step.refl s1.gh) rfl⟩
    | err k fs =>
      exfalso
      cases da <;> simp [truth] at e
      split at e <;> cases e
    | bad => rw [e] at q1; exact False.elim q1⟩
theorem t_not {f : Env → Res Bool} (ha : ST X T ca xa cx G0 H0 W a f) : ST X T ca xa cx G0 H0 W (.UnaryOp .Not a pos) fun env => (f env).bind fun k => .ok (!k) :=
  (pt_not ha).imp fun σ H Q ⟨G, env, rel, p⟩ => ⟨G, env, rel, Post.bind anti_RB p fun k k' H1 G1 s1 r1 q1 => by
    have e : k' = k := r1
    subst e
    exact q1 _ H1 G1 (Step.refl s1.gh) rfl⟩
/-- what follows in a chain of and, or -/
abbrev SW (X : Cx) (T : Tab) (ca xa : Nat → Addr) (cx : Hand) (G0 H0 : Hp) (W : WX) (e : Expr) (f : Env → Res Bool) : Prop := L2.PW X e (tR (PX X T ca xa) cx G0 H0 W RB f)
theorem w_and1 {f : Env → Res Bool} (ha : ST X T ca xa cx G0 H0 W a f) : SW X T ca xa cx G0 H0 W (.BoolOp .And [a] pos) f := pw_and1 ha
theorem w_or1 {f : Env → Res Bool} (ha : ST X T ca xa cx G0 H0 W a f) : SW X T ca xa cx G0 H0 W (.BoolOp .Or [a] pos) f := pw_or1 ha
theorem w_and {rest : List Expr} {f g : Env → Res Bool} (ha : ST X T ca xa cx G0 H0 W a f) (hb : SW X T ca xa cx G0 H0 W (.BoolOp .And (b :: rest) pos) g) :
    SW X T ca xa cx G0 H0 W (.BoolOp .And (a :: b :: rest) pos) fun env => (f env).bind fun k => if k = true then g env else .ok false :=
  (pw_and ha hb).imp fun σ H Q ⟨G, env, rel, p⟩ => ⟨G, env, rel, Post.bind anti_RB p fun k k' H1 G1 s1 r1 q1 => by
    have e : k' = k := r1
    subst e
    cases k' with
    | true => exact ⟨G1, env, rel.step s1, q1⟩
    | false => exact q1 _ H1 G1 (Step.refl s1.gh) rfl⟩
theorem w_or {rest : List Expr} {f g : Env → Res Bool} (ha : ST X T ca xa cx G0 H0 W a f) (hb : SW X T ca xa cx G0 H0 W (.BoolOp .Or (b :: rest) pos) g) :
    SW X T ca xa cx G0 H0 W (.BoolOp .Or (a :: b :: rest) pos) fun env => (f env).bind fun k => if k = true then .ok true else g env :=
  (pw_or ha hb).imp fun σ H Q ⟨G, env, rel, p⟩ => ⟨G, env, rel, Post.bind anti_RB p fun k k' H1 G1 s1 r1 q1 => by
    have e : k' = k := r1
    subst e
    cases k' with
    | false => exact ⟨G1, env, rel.step s1, q1⟩
    | true => exact q1 _ H1 G1 (Step.refl s1.gh) rfl⟩
/-! ### and, or, not, - as values -/
theorem vbl {P : Par} {H0 G H : Hp} {v : V} {r : Vl} {k : Bool} (h : RV P H0 G H v r) (e : asBool r = .ok k) : v = .bl k := by
  cases r with
  | val d =>
    cases d with
    | bl b =>
      cases e
      have h : Rep P G v (.bl _) := h
      cases h; rfl
    | _ => cases e
  | own ds => cases e
theorem vint {P : Par} {H0 G H : Hp} {v : V} {r : Vl} {k : Int} (h : RV P H0 G H v r) (e : asInt r = .ok k) : v = .int k := by
  cases r with
  | val d =>
    cases d with
    | int b =>
      cases e
      have h : Rep P G v (.int _) := h
      cases h; rfl
    | _ => cases e
  | own ds => cases e
theorem no_err_bool {r : Vl} {k : Nat} {fs : List D} (e : asBool r = .err k fs) : False := by
  cases r with
  | val d => cases d <;> cases e
  | own ds => cases e
theorem no_err_int {r : Vl} {k : Nat} {fs : List D} (e : asInt r = .err k fs) : False := by
  cases r with
  | val d => cases d <;> cases e
  | own ds => cases e
theorem post_bool {α β : Type} {P : Par} {W : WX} {σ : St} {G H H0 : Hp} {v : V} {r : Vl} {R : Hp → Hp → Hp → β → α → Prop} {f : Bool → Res α} {Q : β → Hp → Prop} (h : RV P H0 G H v r) (p : Post P W σ G H R ((asBool r).bind f) Q) : ∃ k, v = .bl k ∧ Post P W σ G H R (f k) Q := by
  cases e : asBool r with
  | ok k => rw [e] at p; exact ⟨k, vbl h e, p⟩
  | err k fs => exact (no_err_bool e).elim
  | bad => rw [e] at p; exact False.elim p
theorem post_int {α β : Type} {P : Par} {W : WX} {σ : St} {G H H0 : Hp} {v : V} {r : Vl} {R : Hp → Hp → Hp → β → α → Prop} {f : Int → Res α} {Q : β → Hp → Prop} (h : RV P H0 G H v r) (p : Post P W σ G H R ((asInt r).bind f) Q) : ∃ k, v = .int k ∧ Post P W σ G H R (f k) Q := by
  cases e : asInt r with
  | ok k => rw [e] at p; exact ⟨k, vint h e, p⟩
  | err k fs => exact (no_err_int e).elim
  | bad => rw [e] at p; exact False.elim p
section
variable {f g : Env → Res Vl}
theorem s_one {o} (h : SE X T ca xa cx G0 H0 W a f) : SE X T ca xa cx G0 H0 W (.BoolOp o [a] pos) f := pe_one h
theorem s_and {rest : List Expr} (ha : SE X T ca xa cx G0 H0 W a f) (hb : SE X T ca xa cx G0 H0 W (.BoolOp .And (b :: rest) pos) g) :
    SE X T ca xa cx G0 H0 W (.BoolOp .And (a :: b :: rest) pos) fun env => (f env).bind fun x => (asBool x).bind fun k => if k = true then g env else .ok (.val (.bl false)) :=
  (pe_and ha hb).imp fun σ H Q ⟨G, env, rel, p⟩ => ⟨G, env, rel, Post.bind anti_RV p fun r x H1 G1 s1 r1 q1 => by
    obtain ⟨k, e, q⟩ := post_bool r1 q1
    refine ⟨k, e, ?_⟩
    cases k with
    | true => exact ⟨G1, env, rel.step s1, q⟩
    | false => exact post_val s1.gh q (.bl false)⟩
theorem s_or {rest : List Expr} (ha : SE X T ca xa cx G0 H0 W a f) (hb : SE X T ca xa cx G0 H0 W (.BoolOp .Or (b :: rest) pos) g) :
    SE X T ca xa cx G0 H0 W (.BoolOp .Or (a :: b :: rest) pos) fun env => (f env).bind fun x => (asBool x).bind fun k => if k = true then .ok (.val (.bl true)) else g env :=
  (pe_or ha hb).imp fun σ H Q ⟨G, env, rel, p⟩ => ⟨G, env, rel, Post.bind anti_RV p fun r x H1 G1 s1 r1 q1 => by
    obtain ⟨k, e, q⟩ := post_bool r1 q1
    refine ⟨k, e, ?_⟩
    cases k with
    | false => exact ⟨G1, env, rel.step s1, q⟩
    | true => exact post_val s1.gh q (.bl true)⟩
theorem s_neg (ha : SE X T ca xa cx G0 H0 W a f) : SE X T ca xa cx G0 H0 W (.UnaryOp .USub a pos) fun env => (f env).bind fun x => (neg x.d).bind fun d => .ok (.val d) :=
  (pe_un un_neg ha).imp fun σ H Q ⟨G, env, rel, p⟩ => ⟨G, env, rel, Post.bind anti_RV p fun r x H1 G1 s1 r1 q1 => by
    cases r with
    | val d =>
      cases d with
      | int i =>
        have h : Rep (PX X T ca xa) G1 x (.int i) := r1
        cases h
        exact ⟨i, rfl, post_val s1.gh q1 (.int _)⟩
      | _ => exact False.elim q1
    | own ds => exact False.elim q1⟩
end
end
end PL

set_option linter.all false
set_option Elab.async false
set_option maxRecDepth 100000
set_option maxHeartbeats 1000000
/-! Soundness, part 4: argument lists, displays, items, slices, built-ins, methods of texts. -/
namespace PL
open PySem PySem.Spec PyProof.Rows L2

/-! ### of the text alone -/
def noStar : Expr → Bool
  | .Starred _ _ => false
  | _ => true
def noSlice : Expr → Bool
  | .Slice _ _ _ _ => false
  | _ => true
def noSet : Expr → Bool
  | .Set _ _ _ => false
  | _ => true
/-- not a call without arguments (super()) -/
def noSup : Expr → Bool
  | .Call _ (_ :: _) _ _ => true
  | .Call _ [] (_ :: _) _ => true
  | .Call (.Name x _) [] [] _ => x != "super"
  | _ => true
/-- whose truth is that of its value -/
def plainT : Expr → Bool
  | .UnaryOp .Not _ _ => false
  | .BoolOp _ _ _ => false
  | .IfExp _ _ _ _ => false
  | .Compare _ _ _ _ => false
  | _ => true
theorem star_cons {e : Expr} {es : List Expr} {env : PySem.Env} (h : noStar e = true) : starEach (e :: es) env = (false, eval e env) :: starEach es env := by
  cases e <;> first | rfl | (simp [noStar] at h)
theorem star_any {pos : Pos} {env : PySem.Env} : ∀ {es : List Expr}, es.all noStar = true → (backTo pos (starEach es env)).any (·.1) = false
  | [], _ => rfl
  | e :: es, h => by
    simp only [List.all_cons, Bool.and_eq_true] at h
    rw [star_cons h.1]
    have := star_any (pos := pos) (env := env) h.2
    simp only [backTo, List.map_cons, List.any_cons] at this ⊢
    rw [this]
    rfl
theorem ix_plain {b : Expr} (h : noSlice b = true) : PlainIx b := fun o i => by
  cases b <;> first | rfl | (simp [noSlice] at h)
theorem base_ok {o : Expr} {n : Str} {env : PySem.Env} {w : Sem Value} (h : noSup o = true) : attributeBase o n env w = w := by
  cases o with
  | Call f as ks p =>
    cases as with
    | cons _ _ => cases f <;> rfl
    | nil =>
      cases ks with
      | cons _ _ => cases f <;> rfl
      | nil =>
        cases f with
        | Name x q =>
          have q : (x != ("super" : Str)) = true := h
          unfold attributeBase
          simp only [q, Bool.true_or, if_true]
        | _ => rfl
  | _ => rfl
theorem truth_ok {e : Expr} {env : PySem.Env} (h : plainT e = true) : ∀ whole, isTrue e env whole = (do let v ← whole; standAt e.pos; holding [v] (truthy v)) := fun whole => by
  cases e with
  | UnaryOp o _ _ => cases o <;> first | rfl | (simp [plainT] at h)
  | _ => first | rfl | (simp [plainT] at h)
theorem folded_ok {e : Expr} {env : PySem.Env} (h : noSet e = true) : ∀ x, foldedSetIterable e env x = pure x := fun x => by
  cases e <;> first | rfl | (simp [noSet] at h)
theorem mark_ok {op : CmpOp} {e : Expr} (h : noSet e = true) : behindInMarks op e = false := by
  cases e <;> first | rfl | (simp [noSet] at h)

section
variable {X : Cx} {T : Tab} {ca xa : Nat → Addr} {cx : Hand} {G0 H0 : Hp} {W : WX} {a b c d : Expr} {fa fb fc fd : Env → Res D} {f g : Env → Res Vl} {pos : Pos}

/-! ### lists of values -/
theorem s_nil : SA X T ca xa cx G0 H0 W [] fun _ => .ok [] :=
  pa_nil.imp fun σ H Q ⟨G, env, rel, p⟩ => p [] H G (Step.refl rel.gh) .nil
theorem s_cons {es : List Expr} {h : Env → Res (List D)} (ha : SE X T ca xa cx G0 H0 W a f) (hr : SA X T ca xa cx G0 H0 W es h) (hs : noStar a = true) :
    SA X T ca xa cx G0 H0 W (a :: es) fun env => (f env).bind fun x => (h env).bind fun ds => .ok (x.d :: ds) :=
  (pa_cons ha hr (star_cons hs)).imp fun σ H Q ⟨G, env, rel, p⟩ => by
    refine ⟨G, env, rel, ?_⟩
    cases e : f env with
    | err k fs => simp only [e, Res.bind_err] at p; exact p
    | bad => simp only [e, Res.bind_bad] at p; exact p
    | ok r =>
      simp only [e, Res.bind_ok] at p
      intro x H1 G1 s1 r1
      obtain ⟨G2, s2, gg, r2⟩ := RV.still r1 s1
      refine ⟨G2, env, rel.step s2, Post.bind anti_RDs (Post.after anti_RDs s2 p) fun ds xs H3 G3 s3 r3 q3 => ?_⟩
      exact q3 (x :: xs) H3 G3 (Step.refl s3.gh) (.cons (r2.mono s3.gg) r3)
/-- arguments: some are only looked at -/
inductive RAL (P : Par) (G H : Hp) : List Bool → List V → List D → Prop
  | nil : RAL P G H [] [] []
  | look {ms : List Bool} {v : V} {vs : List V} {d : D} {ds : List D} (h : RP P H G H v d) (r : RAL P G H ms vs ds) : RAL P G H (true :: ms) (v :: vs) (d :: ds)
  | stay {ms : List Bool} {v : V} {vs : List V} {d : D} {ds : List D} (h : Rep P G v d) (r : RAL P G H ms vs ds) : RAL P G H (false :: ms) (v :: vs) (d :: ds)
theorem RAL.step {P : Par} {G H G' H' : Hp} (s : Step G H G' H') : ∀ {ms : List Bool} {vs : List V} {ds : List D}, RAL P G H ms vs ds → RAL P G' H' ms vs ds
  | _, _, _, .nil => .nil
  | _, _, _, .look h r => .look (h.step s) (RAL.step s r)
  | _, _, _, .stay h r => .stay (h.mono s.gg) (RAL.step s r)
theorem RAL.len {P : Par} {G H : Hp} : ∀ {ms : List Bool} {vs : List V} {ds : List D}, RAL P G H ms vs ds → vs.length = ms.length ∧ ds.length = ms.length
  | _, _, _, .nil => ⟨rfl, rfl⟩
  | _, _, _, .look _ r => ⟨congrArg (· + 1) r.len.1, congrArg (· + 1) r.len.2⟩
  | _, _, _, .stay _ r => ⟨congrArg (· + 1) r.len.1, congrArg (· + 1) r.len.2⟩
def RA (P : Par) (ms : List Bool) (_H G' H' : Hp) (vs : List V) (ds : List D) : Prop := RAL P G' H' ms vs ds
theorem anti_RA {P : Par} {ms : List Bool} : Anti (RA P ms) := fun _ _ _ _ _ _ _ h => h
abbrev SAR (X : Cx) (T : Tab) (ca xa : Nat → Addr) (cx : Hand) (G0 H0 : Hp) (W : WX) (ms : List Bool) (e : List Expr) (f : Env → Res (List D)) : Prop := PA X e (tR (PX X T ca xa) cx G0 H0 W (RA (PX X T ca xa) ms) f)
theorem r_nil : SAR X T ca xa cx G0 H0 W [] [] fun _ => .ok [] :=
  pa_nil.imp fun σ H Q ⟨G, env, rel, p⟩ => p [] H G (Step.refl rel.gh) .nil
theorem r_look {es : List Expr} {ms : List Bool} {h : Env → Res (List D)} (ha : SP' X T ca xa cx G0 H0 W a fa) (hr : SAR X T ca xa cx G0 H0 W ms es h) (hs : noStar a = true) :
    SAR X T ca xa cx G0 H0 W (true :: ms) (a :: es) fun env => (fa env).bind fun x => (h env).bind fun ds => .ok (x :: ds) :=
  (pa_cons ha hr (star_cons hs)).imp fun σ H Q ⟨G, env, rel, p⟩ => ⟨G, env, rel, Post.bind anti_RA p fun da x H1 G1 s1 r1 q1 => ⟨G1, env, rel.step s1, Post.bind anti_RA q1 fun ds xs H3 G3 s3 r3 q3 =>
    q3 (x :: xs) H3 G3 (Step.refl s3.gh) (.look (r1.step s3) r3)⟩⟩
theorem r_stay {es : List Expr} {ms : List Bool} {h : Env → Res (List D)} (ha : SD X T ca xa cx G0 H0 W a fa) (hr : SAR X T ca xa cx G0 H0 W ms es h) (hs : noStar a = true) :
    SAR X T ca xa cx G0 H0 W (false :: ms) (a :: es) fun env => (fa env).bind fun x => (h env).bind fun ds => .ok (x :: ds) :=
  (pa_cons ha hr (star_cons hs)).imp fun σ H Q ⟨G, env, rel, p⟩ => ⟨G, env, rel, Post.bind anti_RA p fun da x H1 G1 s1 r1 q1 => ⟨G1, env, rel.step s1, Post.bind anti_RA q1 fun ds xs H3 G3 s3 r3 q3 =>
    q3 (x :: xs) H3 G3 (Step.refl s3.gh) (.stay (Rep.mono s3.gg r1) r3)⟩⟩

/-! ### displays -/
theorem s_tup {es : List Expr} {k : Nat} {h : Env → Res (List D)} (hr : SA X T ca xa cx G0 H0 W es h) : SE X T ca xa cx G0 H0 W (.Tuple es k pos) fun env => (h env).bind fun ds => if ds.length ≤ SL then .ok (.val (.tup ds)) else .bad :=
  (pe_tup hr).imp fun σ H Q ⟨G, env, rel, p⟩ => ⟨G, env, rel, Post.bind anti_RV p fun ds xs H1 G1 s1 r1 q1 => by
    have r1 : Reps _ G1 xs ds := r1
    by_cases z : ds.length ≤ SL
    · rw [if_pos z] at q1
      exact ⟨by rw [sizeLine_eq, r1.length]; exact z, fun p hp => post_tup s1.gh q1 r1 hp⟩
    · rw [if_neg z] at q1; exact False.elim q1⟩
theorem s_lst {es : List Expr} {h : Env → Res (List D)} (hr : SA X T ca xa cx G0 H0 W es h) : SE X T ca xa cx G0 H0 W (.List es pos) fun env => (h env).bind fun ds => if ds.length ≤ SL then .ok (.own ds) else .bad :=
  (pe_lst hr).imp fun σ H Q ⟨G, env, rel, p⟩ => ⟨G, env, rel, Post.bind anti_RV p fun ds xs H1 G1 s1 r1 q1 => by
    have r1 : Reps _ G1 xs ds := r1
    by_cases z : ds.length ≤ SL
    · rw [if_pos z] at q1
      exact ⟨by rw [sizeLine_eq, r1.length]; exact z, fun p hp => post_own s1.gh q1 r1 hp⟩
    · rw [if_neg z] at q1; exact False.elim q1⟩

/-! ### items, slices -/
theorem ix_get {P : Par} {G : Hp} {vs : List V} {ds : List D} {i : Int} {d : D} (r : Reps P G vs ds) (h : (ixNat ds.length i).bind (ds[·]?) = some d) : ∃ v, atI vs i = some v ∧ Rep P G v d := by
  cases e : ixNat ds.length i with
  | none => rw [e] at h; cases h
  | some j =>
    rw [e] at h
    obtain ⟨v, h1, h2⟩ := r.get (i := j) (d := d) h
    refine ⟨v, ?_, h2⟩
    unfold atI
    rw [r.length, show ixN ds.length i = some j from e]
    exact h1
theorem s_ix (ha : SP' X T ca xa cx G0 H0 W a fa) (hb : SP' X T ca xa cx G0 H0 W b fb) (hs : noSlice b = true) : SE X T ca xa cx G0 H0 W (.Subscript a b pos) fun env => (fa env).bind fun x => (fb env).bind fun y => (index x y).bind fun d => .ok (.val d) :=
  (pe_ix ix_seq ha hb (ix_plain hs)).imp fun σ H Q ⟨G, env, rel, p⟩ => ⟨G, env, rel, Post.bind anti_RV p fun da x H1 G1 s1 r1 q1 => ⟨G1, env, rel.step s1, Post.bind anti_RV q1 fun db y H2 G2 s2 r2 q2 => by
    have r1 := RP.step r1 s2
    cases db with
    | int i =>
      have ey := RP.int r2
      cases da with
      | lst ds =>
        obtain ⟨p, vs, rfl, h1, rr⟩ := RP.lst s2.gh r1
        simp only [index] at q2
        split at q2
        · rename_i d e
          obtain ⟨v, h2, h3⟩ := ix_get rr e
          exact .inl ⟨p, vs, i, v, rfl, ey, h1, h2, post_val s2.gh q2 h3⟩
        · exact False.elim q2
      | tup ds =>
        obtain ⟨p, vs, rfl, h1, rr⟩ := RP.tup r1
        simp only [index] at q2
        split at q2
        · rename_i d e
          obtain ⟨v, h2, h3⟩ := ix_get rr e
          exact .inr (.inl ⟨p, vs, i, v, rfl, ey, SqT.of (s2.gh _ _ h1), h2, post_val s2.gh q2 h3⟩)
        · exact False.elim q2
      | str z =>
        simp only [index] at q2
        split at q2
        · rename_i hz
          split at q2
          · rename_i c e
            exact .inr (.inr ⟨z, i, c, RP.str r1, ey, by rw [sizeLine_eq]; exact hz, e, post_val s2.gh q2 (.str _)⟩)
          · exact False.elim q2
        · exact False.elim q2
      | _ => exact False.elim q2
    | _ => cases da <;> exact False.elim q2⟩⟩
abbrev SO (X : Cx) (T : Tab) (ca xa : Nat → Addr) (cx : Hand) (G0 H0 : Hp) (W : WX) (e : Option Expr) (f : Env → Res (Option Int)) : Prop := PO X e (tR (PX X T ca xa) cx G0 H0 W RO f)
theorem _root_.L2.PO.imp {X : Cx} {e : Option Expr} {t t' : TO} (h : PO X e t) (i : ∀ σ H Q, t' σ H Q → t σ H Q) : PO X e t' := ⟨fun pins s σ H Q I q => h.run pins s σ H Q I (i σ H Q q)⟩
theorem o_none : SO X T ca xa cx G0 H0 W none fun _ => .ok none := po_none.imp fun σ H Q ⟨G, env, rel, p⟩ => p none H G (Step.refl rel.gh) rfl
theorem o_some (ha : SE X T ca xa cx G0 H0 W a f) : SO X T ca xa cx G0 H0 W (some a) fun env => (f env).bind fun x => (asInt x).bind fun i => .ok (some i) :=
  (po_some ha).imp fun σ H Q ⟨G, env, rel, p⟩ => ⟨G, env, rel, Post.bind anti_RO p fun r x H1 G1 s1 r1 q1 => by
    obtain ⟨k, e, q⟩ := post_int r1 q1
    exact ⟨k, e, q (some k) H1 G1 (Step.refl s1.gh) rfl⟩⟩
theorem cut_eq (vs : List V) (lo hi : Option Int) : cutV vs lo hi = cutL vs lo hi := rfl
theorem cut_rep {P : Par} {G : Hp} {vs : List V} {ds : List D} (r : Reps P G vs ds) (lo hi : Option Int) : Reps P G (cutV vs lo hi) (cutL ds lo hi) := by
  unfold cutV cutL
  rw [r.length]
  exact (r.drop _).take _
theorem s_sl {lo hi : Option Expr} {p2 : Pos} {fl fh : Env → Res (Option Int)} (ha : SP' X T ca xa cx G0 H0 W a fa) (hl : SO X T ca xa cx G0 H0 W lo fl) (hh : SO X T ca xa cx G0 H0 W hi fh) :
    SE X T ca xa cx G0 H0 W (.Subscript a (.Slice lo hi none p2) pos) fun env => (fa env).bind fun x => (fl env).bind fun l => (fh env).bind fun h => slice x l h :=
  (pe_slice (sl_list.or (sl_tup.or sl_str)) ha hl hh).imp fun σ H Q ⟨G, env, rel, p⟩ => ⟨G, env, rel, Post.bind anti_RV p fun da x H1 G1 s1 r1 q1 => ⟨G1, env, rel.step s1, Post.bind anti_RV q1 fun l l' H2 G2 s2 e2 q2 =>
    ⟨G2, env, (rel.step s1).step s2, Post.bind anti_RV q2 fun h h' H3 G3 s3 e3 q3 => by
    have e2 : l' = l := e2
    have e3 : h' = h := e3
    subst e2
    subst e3
    have r1 := RP.step (RP.step r1 s2) s3
    cases da with
    | lst ds =>
      obtain ⟨p, vs, rfl, h1, rr⟩ := RP.lst s3.gh r1
      exact .inl ⟨p, vs, rfl, h1, fun q hq => post_own s3.gh q3 (cut_rep rr _ _) hq⟩
    | tup ds =>
      obtain ⟨p, vs, rfl, h1, rr⟩ := RP.tup r1
      simp only [slice] at q3
      split at q3
      · exact False.elim q3
      · rename_i nz
        exact .inr (.inl ⟨p, vs, rfl, SqT.of (s3.gh _ _ h1), by rw [rr.length]; exact nz, fun q hq => post_tup s3.gh q3 (cut_rep rr _ _) hq⟩)
    | str z =>
      simp only [slice] at q3
      split at q3
      · rename_i hz
        refine .inr (.inr ⟨z, RP.str r1, by rw [sizeLine_eq]; exact hz, ?_⟩)
        have e : cutS z l' h' = ⟨(cutL z.cps.toList l' h').toArray⟩ := by
          unfold cutS cutL
          rw [TL.len_tl]
          rfl
        rw [e]
        exact post_val s3.gh q3 (.str _)
      · exact False.elim q3
    | _ => exact False.elim q3⟩⟩⟩

end
end PL

set_option linter.all false
set_option Elab.async false
set_option maxRecDepth 100000
set_option maxHeartbeats 1000000
/-! Soundness, part 5: built-ins. -/
namespace PL
open PySem PySem.Spec PyProof.Rows L2
section
variable {X : Cx} {T : Tab} {ca xa : Nat → Addr} {cx : Hand} {G0 H0 : Hp} {W : WX} {a b c d : Expr} {fa fb fc fd : Env → Res D} {f g : Env → Res Vl} {pos : Pos}
/-! ### built-ins -/
def RLst (P : Par) (g : D → Res Vl) (r : List V → Hp → VK → Prop) : Prop := ∀ (W : WX) (σ : St) (G H : Hp) (x : V) (d : D) (Q : VK), Same G H → RP P H G H x d → Post P W σ G H (RV P) (g d) Q → r [x] H Q
theorem s_call1 {r : List V → Hp → VK → Prop} {g : D → Res Vl} {e : Expr} (hp : RLst (PX X T ca xa) g r) (ha : SP' X T ca xa cx G0 H0 W a fa) (hn : noStar a = true) (he : ∀ {t : TA}, PA X [a] t → PE X e (tCB r t)) :
    SE X T ca xa cx G0 H0 W e fun env => (fa env).bind fun x => g x :=
  (he (pa_cons ha pa_nil (star_cons hn))).imp fun σ H Q ⟨G, env, rel, p⟩ => ⟨G, env, rel, Post.bind anti_RV p fun da x H1 G1 s1 r1 q1 => hp W σ G1 H1 x da Q s1.gh r1 q1⟩
theorem l_len : RLst (PX X T ca xa) (b1 .len) (fun xs H Q => ∃ x n, xs = [x] ∧ LenV X.K x H n ∧ Q (.int n) H) := by
  intro W σ G H x d Q s r p
  cases d with
  | lst ds =>
    obtain ⟨a, vs, rfl, h, rr⟩ := r.lst s
    exact ⟨_, vs.length, rfl, .inl ⟨vs, h, rfl⟩, by rw [rr.length]; exact post_val s p (.int _)⟩
  | tup ds =>
    obtain ⟨a, vs, rfl, h, rr⟩ := r.tup
    exact ⟨_, vs.length, rfl, .inr ⟨vs, SqT.of (s _ _ h), rfl⟩, by rw [rr.length]; exact post_val s p (.int _)⟩
  | str z =>
    simp only [b1, len] at p
    split at p
    · rename_i hz
      rw [r.str]
      exact ⟨_, z.length, rfl, ⟨by rw [sizeLine_eq]; exact hz, rfl⟩, post_val s p (.int _)⟩
    · exact False.elim p
  | _ => exact False.elim p
theorem l_abs : RLst (PX X T ca xa) (b1 .abs) (fun xs H Q => ∃ i, xs = [.int i] ∧ Q (.int (if i < 0 then -i else i)) H) := by
  intro W σ G H x d Q s r p
  cases d with
  | int i => exact ⟨i, by rw [r.int], post_val s p (.int _)⟩
  | _ => exact False.elim p
theorem l_int : RLst (PX X T ca xa) (b1 .int) (fun xs H Q => ((∃ i, xs = [.int i] ∧ Q (.int i) H) ∨ ∃ k, xs = [.bl k] ∧ Q (.int (if k then 1 else 0)) H) ∨ ∃ a n, xs = [.str a] ∧ PySem.intText? a = some n ∧ a.length ≤ 640 ∧ Q (.int n) H) := by
  intro W σ G H x d Q s r p
  cases d with
  | int i => exact .inl (.inl ⟨i, by rw [r.int], post_val s p (.int _)⟩)
  | bl k => exact .inl (.inr ⟨k, by rw [r.bl], post_val s p (.int _)⟩)
  | str z =>
    simp only [b1] at p
    split at p
    · rename_i n e
      split at p
      · rename_i hz
        exact .inr ⟨z, n, by rw [r.str], e, hz, post_val s p (.int _)⟩
      · exact False.elim p
    · exact False.elim p
  | _ => exact False.elim p
theorem l_str : RLst (PX X T ca xa) (b1 .str) (fun xs H Q => ∃ i, xs = [.int i] ∧ i.natAbs.log2 < 1920 ∧ Q (.str (toString i)) H) := by
  intro W σ G H x d Q s r p
  cases d with
  | int i =>
    simp only [b1] at p
    split at p
    · rename_i h
      exact ⟨i, by rw [r.int], h, post_val s p (.str _)⟩
    · exact False.elim p
  | _ => exact False.elim p
theorem l_sum : RLst (PX X T ca xa) (b1 .sum) (rSum X.K) := by
  intro W σ G H x d Q s r p
  cases d with
  | lst ds =>
    obtain ⟨a, vs, rfl, h, rr⟩ := r.lst s
    simp only [b1] at p
    split at p
    · rename_i ns e
      obtain ⟨e1, _⟩ := rr.intsOf e
      subst e1
      exact ⟨a, ns, rfl, h, post_val s p (.int _)⟩
    · exact False.elim p
  | _ => exact False.elim p
theorem l_lst : RLst (PX X T ca xa) (b1 .lst) (fun xs H Q => ∃ p ys, xs = [.ref p] ∧ (SqL X.K H p ys ∨ SqT X.K H p ys) ∧ ∀ l, H l = none → Q (.ref l) (upd H l (.lst ys))) := by
  intro W σ G H x d Q s r p
  cases d with
  | lst ds =>
    obtain ⟨a, vs, rfl, h, rr⟩ := r.lst s
    exact ⟨a, vs, rfl, .inl h, fun l hl => post_own s p rr hl⟩
  | tup ds =>
    obtain ⟨a, vs, rfl, h, rr⟩ := r.tup
    exact ⟨a, vs, rfl, .inr (SqT.of (s _ _ h)), fun l hl => post_own s p rr hl⟩
  | _ => exact False.elim p
theorem l_tup : RLst (PX X T ca xa) (b1 .tup) (fun xs H Q => ∃ p ys, xs = [.ref p] ∧ ((SqL X.K H p ys ∧ ∀ l, H l = none → Q (.ref l) (upd H l (.tup ys))) ∨ (SqT X.K H p ys ∧ Q (.ref p) H))) := by
  intro W σ G H x d Q s r p
  cases d with
  | lst ds =>
    obtain ⟨a, vs, rfl, h, rr⟩ := r.lst s
    exact ⟨a, vs, rfl, .inl ⟨h, fun l hl => post_tup s p rr hl⟩⟩
  | tup ds =>
    obtain ⟨a, vs, rfl, h, rr⟩ := r.tup
    exact ⟨a, vs, rfl, .inr ⟨SqT.of (s _ _ h), post_val s p (.tup h rr)⟩⟩
  | _ => exact False.elim p
theorem fold_max : ∀ (ns : List Int) (n : Int), ns.foldl max n ∈ n :: ns ∧ ∀ y ∈ n :: ns, y ≤ ns.foldl max n
  | [], n => ⟨List.mem_cons_self, fun y h => by simp at h; subst h; exact Int.le_refl _⟩
  | m :: ns, n => by
    obtain ⟨h1, h2⟩ := fold_max ns (max n m)
    rw [List.foldl_cons]
    refine ⟨?_, fun y hy => ?_⟩
    · rcases List.mem_cons.mp h1 with e | e
      · rw [e]
        by_cases q : n ≤ m
        · rw [Int.max_eq_right q]; simp
        · rw [Int.max_eq_left (by omega)]; simp
      · simp [e]
    · have hm := h2 (max n m) List.mem_cons_self
      rcases List.mem_cons.mp hy with e | e
      · subst e; omega
      · rcases List.mem_cons.mp e with e | e
        · subst e; omega
        · exact h2 y (List.mem_cons_of_mem _ e)
theorem fold_min : ∀ (ns : List Int) (n : Int), ns.foldl min n ∈ n :: ns ∧ ∀ y ∈ n :: ns, ns.foldl min n ≤ y
  | [], n => ⟨List.mem_cons_self, fun y h => by simp at h; subst h; exact Int.le_refl _⟩
  | m :: ns, n => by
    obtain ⟨h1, h2⟩ := fold_min ns (min n m)
    rw [List.foldl_cons]
    refine ⟨?_, fun y hy => ?_⟩
    · rcases List.mem_cons.mp h1 with e | e
      · rw [e]
        by_cases q : n ≤ m
        · rw [Int.min_eq_left q]; simp
        · rw [Int.min_eq_right (by omega)]; simp
      · simp [e]
    · have hm := h2 (min n m) List.mem_cons_self
      rcases List.mem_cons.mp hy with e | e
      · subst e; omega
      · rcases List.mem_cons.mp e with e | e
        · subst e; omega
        · exact h2 y (List.mem_cons_of_mem _ e)
theorem l_max : RLst (PX X T ca xa) (b1 .max) (rMax X.K) := by
  intro W σ G H x d Q s r p
  cases d with
  | lst ds =>
    obtain ⟨a, vs, rfl, h, rr⟩ := r.lst s
    simp only [b1] at p
    split at p
    · rename_i n ns e
      obtain ⟨e1, _⟩ := rr.intsOf e
      subst e1
      refine ⟨a, n :: ns, rfl, h, by simp, fun m hm hy => ?_⟩
      obtain ⟨f1, f2⟩ := fold_max ns n
      have e3 : m = ns.foldl max n := Int.le_antisymm (f2 m hm) (hy _ f1)
      rw [e3]
      exact post_val s p (.int _)
    · exact False.elim p
  | _ => exact False.elim p
theorem l_min : RLst (PX X T ca xa) (b1 .min) (rMin X.K) := by
  intro W σ G H x d Q s r p
  cases d with
  | lst ds =>
    obtain ⟨a, vs, rfl, h, rr⟩ := r.lst s
    simp only [b1] at p
    split at p
    · rename_i n ns e
      obtain ⟨e1, _⟩ := rr.intsOf e
      subst e1
      refine ⟨a, n :: ns, rfl, h, by simp, fun m hm hy => ?_⟩
      obtain ⟨f1, f2⟩ := fold_min ns n
      have e3 : m = ns.foldl min n := Int.le_antisymm (hy _ f1) (f2 m hm)
      rw [e3]
      exact post_val s p (.int _)
    · exact False.elim p
  | _ => exact False.elim p
/-! sorted -/
theorem leI_total : ∀ a b : Int, (leI a b || leI b a) = true := fun a b => by
  unfold leI
  simp only [Bool.or_eq_true, decide_eq_true_eq]
  omega
theorem leI_trans : ∀ a b c : Int, leI a b = true → leI b c = true → leI a c = true := fun a b c h1 h2 => by
  unfold leI at *
  simp only [decide_eq_true_eq] at *
  omega
theorem sort_uniq {α : Type} {le : α → α → Bool} (anti : ∀ a b, le a b = true → le b a = true → a = b) : ∀ {l m : List α}, l.Pairwise (fun a b => le a b = true) → m.Pairwise (fun a b => le a b = true) → l.Perm m → l = m
  | [], m, _, _, h => (List.Perm.eq_nil h.symm).symm
  | x :: l, [], _, _, h => absurd h.length_eq (by simp)
  | x :: l, y :: m, hl, hm, h => by
    have e : x = y := by
      rcases List.mem_cons.mp (h.mem_iff.mp (List.mem_cons_self (a := x) (l := l))) with e | hx
      · exact e
      · rcases List.mem_cons.mp (h.mem_iff.mpr (List.mem_cons_self (a := y) (l := m))) with e | hy
        · exact e.symm
        · exact anti x y ((List.pairwise_cons.mp hl).1 y hy) ((List.pairwise_cons.mp hm).1 x hx)
    subst e
    rw [sort_uniq anti (List.pairwise_cons.mp hl).2 (List.pairwise_cons.mp hm).2 h.cons_inv]
theorem sort_ints {ns ns' : List Int} (h : ns'.Perm ns) (s : ns'.Pairwise (· ≤ ·)) : ns' = ns.mergeSort leI := by
  refine sort_uniq (le := leI) (fun a b h1 h2 => by unfold leI at *; simp only [decide_eq_true_eq] at *; omega) (s.imp fun q => decide_eq_true q) ?_ (h.trans (List.mergeSort_perm ns leI).symm)
  exact List.pairwise_mergeSort leI_trans leI_total ns
/-! ### sorting triples of ints -/
section
open Srt SrtO
variable {prog : Program} {w : World} {A : Around} {E : Value → Shared → Prop} {s : Shared}
/-- v is a tuple of three ints in the heap -/
def IsTrip (h : Heap) (v : Value) (k : Int × Int × Int) : Prop := ∃ a o t u r n, v = .ref a ∧ h.get? a = some o ∧ o.cls = .type "tuple" ∧ o.data = .seq #[.int k.1 t, .int k.2.1 u, .int k.2.2 r] n
theorem IsTrip.keeps {h h' : Heap} {v : Value} {k : Int × Int × Int} (p : IsTrip h v k) (z : ∀ b o, h.get? b = some o → o.cls = .type "tuple" → h'.get? b = some o) : IsTrip h' v k := by
  obtain ⟨a, o, t, u, r, n, e, ho, hc, hd⟩ := p
  exact ⟨a, o, t, u, r, n, e, z _ _ ho hc, hc, hd⟩
def lex3 (p q : Int × Int × Int) : Bool := if p.1 = q.1 then (if p.2.1 = q.2.1 then decide (p.2.2 < q.2.2) else decide (p.2.1 < q.2.1)) else decide (p.1 < q.1)
theorem lex3_iff {p q : Int × Int × Int} : lex3 p q = true ↔ p.1 < q.1 ∨ (p.1 = q.1 ∧ (p.2.1 < q.2.1 ∨ (p.2.1 = q.2.1 ∧ p.2.2 < q.2.2))) := by
  unfold lex3
  by_cases e : p.1 = q.1
  · rw [if_pos e]
    by_cases f : p.2.1 = q.2.1
    · rw [if_pos f, decide_eq_true_eq]
      omega
    · rw [if_neg f, decide_eq_true_eq]
      omega
  · rw [if_neg e, decide_eq_true_eq]
    omega
theorem lex3_no {p q : Int × Int × Int} : lex3 p q = false ↔ ¬ (p.1 < q.1 ∨ (p.1 = q.1 ∧ (p.2.1 < q.2.1 ∨ (p.2.1 = q.2.1 ∧ p.2.2 < q.2.2)))) := by
  rw [← lex3_iff]
  cases lex3 p q <;> simp
theorem swo_lex3 {α : Type} (k : α → Int × Int × Int) : Swo fun v u => lex3 (k v) (k u) := by
  refine ⟨fun x y h => ?_, fun x y z h1 h2 => ?_⟩
  · have a := lex3_iff.mp h
    refine lex3_no.mpr ?_
    omega
  · have a := lex3_no.mp h1
    have b := lex3_no.mp h2
    refine lex3_no.mpr ?_
    omega
theorem trip_cmp {vs : List Value} {k : Value → Int × Int × Int} (hp : ∀ v ∈ vs, IsTrip s.heap v (k v)) : Cmp prog w A s (tuples' true) (fun p => p.1 ∈ vs) (lt2 fun v u => lex3 (k v) (k u)) := by
  intro p q hm hm'
  have h1 := hp _ hm
  have h2 := hp _ hm'
  show wpAny (model prog w) A (keyLt' (tuples' true) p.1 q.1) (fun r s' => s' = s ∧ r = lex3 (k p.1) (k q.1)) (fun _ _ => False) s
  generalize k p.1 = kp at h1 ⊢
  generalize k q.1 = kq at h2 ⊢
  obtain ⟨x, y, z⟩ := kp
  obtain ⟨x', y', z'⟩ := kq
  unfold lex3
  obtain ⟨a, o, t, u, r, n, e, ho, hc, hd⟩ := h1
  obtain ⟨a', o', t', u', r', n', e', ho', hc', hd'⟩ := h2
  rw [e, e']
  refine PySem.W.kat_lt ho hd ho' hd' ?_
  show PySem.W.KatLex prog w A true (decide (3 < 3)) _ [(.int x t, .int x' t'), (.int y u, .int y' u'), (.int z r, .int z' r')] 0 s
  dsimp only
  refine PySem.W.kat_cons (SeqAt.EqAt.int_int x t x' t' prog w _ _ ?_)
  refine PySem.W.kat_go (fun e1 => ?_) (fun e1 => ?_)
  · have ex : x = x' := by simpa using e1
    refine PySem.W.kat_yes (PySem.W.kat_cons (SeqAt.EqAt.int_int y u y' u' prog w _ _ ?_))
    refine PySem.W.kat_go (fun e2 => ?_) (fun e2 => ?_)
    · have ey : y = y' := by simpa using e2
      refine PySem.W.kat_yes (PySem.W.kat_cons (SeqAt.EqAt.int_int z r z' r' prog w _ _ ?_))
      refine PySem.W.kat_go (fun e3 => ?_) (fun e3 => ?_)
      · have ez : z = z' := by simpa using e3
        have e4 : (if x = x' then (if y = y' then decide (z < z') else decide (y < y')) else decide (x < x')) = false := by
          rw [if_pos ex, if_pos ey, ez]
          exact decide_eq_false (Int.lt_irrefl _)
        exact PySem.W.kat_yes (PySem.W.kat_nil ⟨rfl, e4.symm⟩)
      · have e4 : (if x = x' then (if y = y' then decide (z < z') else decide (y < y')) else decide (x < x')) = decide (z < z') := by rw [if_pos ex, if_pos ey]
        refine PySem.W.kat_no (PySem.W.kat_one _ _ (PyProof.Rows.lt_int ?_))
        exact (show s = s ∧ decide (z < z') = _ from ⟨rfl, e4.symm⟩)
    · have ey : ¬ y = y' := by simpa using e2
      have e4 : (if x = x' then (if y = y' then decide (z < z') else decide (y < y')) else decide (x < x')) = decide (y < y') := by rw [if_pos ex, if_neg ey]
      refine PySem.W.kat_no (PySem.W.kat_one _ _ (PyProof.Rows.lt_int ?_))
      exact (show s = s ∧ decide (y < y') = _ from ⟨rfl, e4.symm⟩)
  · have ex : ¬ x = x' := by simpa using e1
    have e4 : (if x = x' then (if y = y' then decide (z < z') else decide (y < y')) else decide (x < x')) = decide (x < x') := if_neg ex
    exact PySem.W.kat_no (oneLt_int ⟨rfl, e4.symm⟩)
theorem firsts3 {h : Heap} : ∀ {vs : List Value}, (∀ v ∈ vs, ∃ k, IsTrip h v k) → ∃ fs : List Value, PySem.W.KatTups h vs fs ∧ fs.length = vs.length ∧ ∀ f ∈ fs, ∃ x t, f = Value.int x t
  | [], _ => ⟨[], PySem.W.KatTups.nil, rfl, fun _ hm => by simp at hm⟩
  | v :: vs, hp => by
    obtain ⟨fs, h1, h2, h3⟩ := firsts3 (vs := vs) fun v' hm => hp v' (List.mem_cons_of_mem _ hm)
    obtain ⟨k, a, o, t, u, r, n, e, ho, hc, hd⟩ := hp v (List.mem_cons_self ..)
    subst e
    refine ⟨.int k.1 t :: fs, PySem.W.KatTups.cons ho hc hd rfl h1, by rw [List.length_cons, List.length_cons, h2], fun f hm => ?_⟩
    rcases List.mem_cons.mp hm with rfl | hm
    · exact ⟨k.1, t, rfl⟩
    · exact h3 f hm
theorem trips_sortable {a : Addr} {vs : List Value} {k : Value → Int × Int × Int} (h0 : 0 < vs.length) (hp : ∀ v ∈ vs, IsTrip s.heap v (k v)) (ha : ∀ o, s.heap.get? a = some o → o.cls ≠ .type "tuple") : SortableO prog w A s a vs fun v u => lex3 (k v) (k u) := by
  intro h' keep
  have hp' : ∀ v ∈ vs, IsTrip h' v (k v) := fun v hm => (hp v hm).keeps fun b o e c => keep b o (fun z => by subst z; exact ha o e c) e
  obtain ⟨fs, h1, h2, h3⟩ := firsts3 fun v hm => ⟨_, hp' v hm⟩
  refine ⟨tuples' true, fun Q E hq => ?_, trip_cmp hp'⟩
  refine PySem.W.kat_kind (T := .type "int") h1 (by omega) (fun f hm => ?_) (by rfl) ?_
  · obtain ⟨x, t, rfl⟩ := h3 f hm
    exact PySem.W.Looks.now
  · have e : (Value.type "int" != Value.type "tuple") = true := by first | decide +kernel | rfl | decide
    rw [e]
    exact hq
theorem sorted_trips {l : Addr} {vs : List Value} {k : Value → Int × Int × Int} {Q : Value → Shared → Prop} (hl : s.heap.IsList l vs.toArray) (hz : vs.length ≤ sizeLine) (hp : ∀ v ∈ vs, IsTrip s.heap v (k v))
    (h : ∀ (h' : Heap) (d : Addr) (out : List Value), Srtd (fun v u => lex3 (k v) (k u)) out → Stb (fun v u => lex3 (k v) (k u)) out vs → (∀ b o, s.heap.get? b = some o → h'.get? b = some o) → s.heap.objs.size ≤ d → (∃ n, h'.get? d = some (seqObj "list" out.toArray n)) → Q (.ref d) { s with heap := h' }) :
    wpAny (model prog w) A (call (.builtin "sorted") [.ref l]) Q E s := by
  refine sorted_ord (swo_lex3 k) hl hz (fun h2 h₁ a ha kk => ?_) fun out hs hb => ?_
  · refine trips_sortable (s := { s with heap := h₁ }) (by omega) (fun v hm => (hp v hm).keeps fun b o e _ => (kk b o e).2) fun o e => ?_
    have e' : some o = some (seqObj "list" vs.toArray 0) := e.symm.trans ha
    cases e'
    intro c
    exact absurd (Value.type.inj c) (by decide)
  · exact h _ _ out hs hb (fun b o e => sortedAll_old e) (Nat.le_succ _) (sortedAll_at s.heap vs out.toArray)
end
abbrev lt3 (k : V → Int × Int × Int) (x y : V) : Bool := lex3 (k x) (k y)
def rSorted3 (K : PySem.W.Frag) : List V → Hp → VK → Prop := fun vs H Q => ∃ (a : Addr) (xs : List V) (k : V → Int × Int × Int), vs = [V.ref a] ∧ SqL K H a xs ∧ (∀ x ∈ xs, ∃ t, x = V.ref t ∧ H t = some (.tup [.int (k x).1, .int (k x).2.1, .int (k x).2.2])) ∧
  ∀ ys p, SrtO.Srtd (lt3 k) ys → SrtO.Stb (lt3 k) ys xs → H p = none → Q (.ref p) (upd H p (.lst ys))
theorem vals3 {x y z : V} {us : List Value} (r : Vals [x, y, z] us) : ∃ a b c, us = [a, b, c] ∧ Vals [x] [a] ∧ Vals [y] [b] ∧ Vals [z] [c] := by
  cases r with
  | cons h1 r =>
    cases r with
    | cons h2 r =>
      cases r with
      | cons h3 r =>
        cases r
        exact ⟨_, _, _, rfl, .cons h1 .nil, .cons h2 .nil, .cons h3 .nil⟩
theorem cr_sorted3 {X : Cx} : CallR X (.builtin "sorted") (rSorted3 X.K) := by
  intro pins s σ H vs us Q I r h
  obtain ⟨a, xs, k, rfl, hs, hx, q⟩ := h
  obtain ⟨its, rv, hl, hz⟩ := I.list hs
  obtain ⟨u, rfl, ru⟩ := vals1 r
  obtain rfl : u = Value.ref a := ru
  obtain ⟨e1, e2⟩ := refs_back rv fun x m => by
    obtain ⟨t, e, _⟩ := hx x m
    exact ⟨t, e⟩
  refine sorted_trips (k := fun u => k (backV u)) hl.isList (by rw [← rv.length]; exact hz) (fun v hv => ?_) fun h' d out h1 h2 kp hd hn => ?_
  · obtain ⟨t, rfl⟩ := e2 v hv
    have hm : V.ref t ∈ xs := by rw [e1]; exact List.mem_map.mpr ⟨_, hv, rfl⟩
    obtain ⟨t', e, ht⟩ := hx _ hm
    cases e
    obtain ⟨_, its2, r2, o, ho, hc, n, hd⟩ := I.hok _ _ ht
    obtain ⟨u1, u2, u3, rfl, ri, rj, rk⟩ := vals3 r2
    obtain ⟨_, z1, ri⟩ := vals1 ri
    obtain ⟨_, z2, rj⟩ := vals1 rj
    obtain ⟨_, z3, rk⟩ := vals1 rk
    cases z1
    cases z2
    cases z3
    obtain ⟨t1, rfl⟩ := ri
    obtain ⟨t2, rfl⟩ := rj
    obtain ⟨t3, rfl⟩ := rk
    exact ⟨t, o, t1, t2, t3, n, rfl, ho, hc, hd⟩
  · have h3 : ∀ u ∈ out, ∃ a, u = Value.ref a := fun u hu => e2 u (h2.perm.mem_iff.mp hu)
    obtain ⟨n, hn⟩ := hn
    have hb : SrtO.Stb (lt3 k) (out.map backV) xs := by
      rw [e1]
      exact SrtO.Stb.map (swo_lex3 k) backV h2
    refine ⟨.ref d, upd H d (.lst (out.map backV)), I.laid (t' := s.toks) kp hd ⟨?_, out, n, vals_back h3, hn⟩, rfl, q _ d (SrtO.srtd_map h1) hb (I.hok.fresh hd)⟩
    rw [hb.len]
    exact hz
theorem trip_reps {P : Par} {G : Hp} (k : V → Int × Int × Int) : ∀ (ys : List V), (∀ y ∈ ys, ∃ t, y = V.ref t ∧ G t = some (.tup [.int (k y).1, .int (k y).2.1, .int (k y).2.2])) → Reps P G ys ((ys.map k).map fun p => .tup [.int p.1, .int p.2.1, .int p.2.2])
  | [], _ => .nil
  | y :: ys, h => by
    obtain ⟨t, e1, e2⟩ := h y List.mem_cons_self
    refine .cons ?_ (trip_reps k ys fun z hz => h z (List.mem_cons_of_mem _ hz))
    rw [e1] at e2 ⊢
    exact .tup e2 (.cons (.int _) (.cons (.int _) (.cons (.int _) .nil)))
theorem trip_key {P : Par} {G : Hp} {vs : List V} {ds : List D} {ps : List (Int × Int × Int)} (rr : Reps P G vs ds) (e : tripsOf ds = some ps) : ∃ k : V → Int × Int × Int, vs.map k = ps ∧ ∀ x ∈ vs, ∃ t, x = V.ref t ∧ G t = some (.tup [.int (k x).1, .int (k x).2.1, .int (k x).2.2]) := by
  refine ⟨fun x => match x with
    | .ref t => (match G t with
      | some (.tup [.int i, .int j, .int l]) => (i, j, l)
      | _ => (0, 0, 0))
    | _ => (0, 0, 0), ?_⟩
  induction ds generalizing vs ps with
  | nil =>
    cases rr
    cases e
    exact ⟨rfl, fun _ z => nomatch z⟩
  | cons d ds ih =>
    cases rr with
    | @cons v vs _ _ h r =>
      cases h with
      | @tup t ws es hg hr =>
        cases hr with
        | nil => simp [tripsOf] at e
        | cons h1 r1 =>
          cases r1 with
          | nil => cases h1 <;> simp [tripsOf] at e
          | cons h2 r2 =>
            cases r2 with
            | nil => cases h1 <;> cases h2 <;> simp [tripsOf] at e
            | cons h3 r3 =>
              cases r3 with
              | cons _ _ => cases h1 <;> cases h2 <;> cases h3 <;> simp [tripsOf] at e
              | nil =>
                cases h1 <;> cases h2 <;> cases h3 <;> first | (simp [tripsOf] at e; done) | skip
                rename_i i j l
                simp only [tripsOf] at e
                cases q : tripsOf ds with
                | none => rw [q] at e; simp at e
                | some qs =>
                  rw [q] at e
                  simp only [Option.map_some, Option.some.injEq] at e
                  subst e
                  obtain ⟨e1, e2⟩ := ih r q
                  refine ⟨?_, fun x hx => ?_⟩
                  · rw [List.map_cons, e1]
                    simp only [hg]
                  · rcases List.mem_cons.mp hx with z | z
                    · subst z
                      exact ⟨t, rfl, by simp only [hg]⟩
                    · exact e2 x z
      | _ => simp [tripsOf] at e
theorem sort_trips {k : V → Int × Int × Int} {ys vs : List V} (hs : SrtO.Srtd (lt3 k) ys) (hb : SrtO.Stb (lt3 k) ys vs) : ys.map k = (vs.map k).mergeSort le3 := by
  have lex_le : ∀ u v : Int × Int × Int, lex3 v u = false → le3 u v = true := fun u v h => by
    have h' := lex3_no.mp h
    simp only [le3, Bool.or_eq_true, Bool.and_eq_true, decide_eq_true_eq]
    omega
  have so : (ys.map k).Pairwise (fun u v => le3 u v = true) := by
    rw [List.pairwise_map]
    exact hs.imp fun q => lex_le _ _ q
  refine sort_uniq (le := le3) (fun u v h1 h2 => ?_) so (List.pairwise_mergeSort (fun u v w h1 h2 => ?_) (fun u v => ?_) (vs.map k)) ((hb.perm.map k).trans (List.mergeSort_perm (vs.map k) le3).symm)
  · obtain ⟨u1, u2, u3⟩ := u
    obtain ⟨v1, v2, v3⟩ := v
    simp only [le3, Bool.or_eq_true, Bool.and_eq_true, decide_eq_true_eq] at h1 h2
    have a1 : u1 = v1 := by omega
    have a2 : u2 = v2 := by omega
    have a3 : u3 = v3 := by omega
    rw [a1, a2, a3]
  · simp only [le3, Bool.or_eq_true, Bool.and_eq_true, decide_eq_true_eq] at h1 h2 ⊢
    omega
  · simp only [le3, Bool.or_eq_true, Bool.and_eq_true, decide_eq_true_eq]
    omega
theorem pair_reps {P : Par} {G : Hp} (k : V → Int × Int) : ∀ (ys : List V), (∀ y ∈ ys, ∃ t, y = V.ref t ∧ G t = some (.tup [.int (k y).1, .int (k y).2])) → Reps P G ys ((ys.map k).map fun p => .tup [.int p.1, .int p.2])
  | [], _ => .nil
  | y :: ys, h => by
    obtain ⟨t, e1, e2⟩ := h y List.mem_cons_self
    refine .cons ?_ (pair_reps k ys fun z hz => h z (List.mem_cons_of_mem _ hz))
    rw [e1] at e2 ⊢
    exact .tup e2 (.cons (.int _) (.cons (.int _) .nil))
theorem l_sorted : RLst (PX X T ca xa) (b1 .sorted) (fun vs H Q => (rSortedI X.K vs H Q ∨ rSortedPO X.K vs H Q) ∨ rSorted3 X.K vs H Q) := by
  intro W σ G H x d Q s r p
  cases d with
  | lst ds =>
    obtain ⟨a, vs, rfl, h, rr⟩ := r.lst s
    simp only [b1, sortD] at p
    split at p
    · rename_i ns e
      obtain ⟨e1, _⟩ := rr.intsOf e
      subst e1
      refine .inl (.inl ⟨a, ns, rfl, h, fun ns' q hp hs hq => ?_⟩)
      rw [sort_ints hp hs]
      exact post_own s p (Reps.ints _) hq
    · split at p
      · rename_i ps e
        have key : ∀ {vs : List V} {ds : List D} {ps : List (Int × Int)}, Reps (PX X T ca xa) G vs ds → pairsOf ds = some ps → ∃ k : V → Int × Int, vs.map k = ps ∧ ∀ x ∈ vs, ∃ t, x = V.ref t ∧ G t = some (.tup [.int (k x).1, .int (k x).2]) := by
          intro vs ds ps rr e
          refine ⟨fun x => match x with
            | .ref t => (match G t with
              | some (.tup [.int i, .int j]) => (i, j)
              | _ => (0, 0))
            | _ => (0, 0), ?_⟩
          induction ds generalizing vs ps with
          | nil =>
            cases rr
            cases e
            exact ⟨rfl, fun _ z => nomatch z⟩
          | cons d ds ih =>
            cases rr with
            | @cons v vs _ _ h r =>
              cases h with
              | @tup t ws es hg hr =>
                cases hr with
                | nil => simp [pairsOf] at e
                | cons h1 r1 =>
                  cases r1 with
                  | nil => cases h1 <;> simp [pairsOf] at e
                  | cons h2 r2 =>
                    cases r2 with
                    | cons _ _ => cases h1 <;> cases h2 <;> simp [pairsOf] at e
                    | nil =>
                      cases h1 <;> cases h2 <;> first | (simp [pairsOf] at e; done) | skip
                      rename_i i j
                      simp only [pairsOf] at e
                      cases q : pairsOf ds with
                      | none => rw [q] at e; simp at e
                      | some qs =>
                        rw [q] at e
                        simp only [Option.map_some, Option.some.injEq] at e
                        subst e
                        obtain ⟨e1, e2⟩ := ih r q
                        refine ⟨?_, fun x hx => ?_⟩
                        · rw [List.map_cons, e1]
                          simp only [hg]
                        · rcases List.mem_cons.mp hx with z | z
                          · subst z
                            exact ⟨t, rfl, by simp only [hg]⟩
                          · exact e2 x z
              | _ => simp [pairsOf] at e
        obtain ⟨k, k1, k2⟩ := key rr e
        refine .inl (.inr ⟨a, vs, k, rfl, h, fun x hx => ?_, fun ys q hs hb hq => ?_⟩)
        · obtain ⟨t, e1, e2⟩ := k2 x hx
          exact ⟨t, e1, s _ _ e2⟩
        · have pm : (ys.map k).Perm ps := by rw [← k1]; exact hb.perm.map k
          have lex_le : ∀ u v : Int × Int, SrtO.lexB v u = false → leP u v = true := fun u v h => by
            have h' : ¬ (v.1 < u.1 ∨ (v.1 = u.1 ∧ v.2 < u.2)) := fun z => by
              rw [SrtO.lexB_iff.mpr z] at h
              cases h
            simp only [leP, Bool.or_eq_true, Bool.and_eq_true, decide_eq_true_eq]
            omega
          have so : (ys.map k).Pairwise (fun u v => leP u v = true) := by
            rw [List.pairwise_map]
            exact hs.imp fun q => lex_le _ _ q
          have e3 : ys.map k = ps.mergeSort leP := by
            refine sort_uniq (le := leP) (fun u v h1 h2 => ?_) so (List.pairwise_mergeSort (fun u v w h1 h2 => ?_) (fun u v => ?_) ps) (pm.trans (List.mergeSort_perm ps leP).symm)
            · obtain ⟨u1, u2⟩ := u
              obtain ⟨v1, v2⟩ := v
              simp only [leP] at h1 h2
              simp at h1 h2
              have : u1 = v1 := by omega
              have : u2 = v2 := by omega
              simp_all
            · obtain ⟨u1, u2⟩ := u
              obtain ⟨v1, v2⟩ := v
              obtain ⟨w1, w2⟩ := w
              simp only [leP] at h1 h2 ⊢
              simp at h1 h2 ⊢
              omega
            · obtain ⟨u1, u2⟩ := u
              obtain ⟨v1, v2⟩ := v
              simp only [leP]
              simp
              omega
          rw [← e3] at p
          refine post_own s p ?_ hq
          have ys_in : ∀ y ∈ ys, ∃ t, y = V.ref t ∧ G t = some (.tup [.int (k y).1, .int (k y).2]) := fun y hy => k2 y (hb.perm.mem_iff.mp hy)
          exact pair_reps k ys ys_in
      · split at p
        · rename_i ts e
          obtain ⟨k, k1, k2⟩ := trip_key rr e
          refine .inr ⟨a, vs, k, rfl, h, fun x hx => ?_, fun ys q hs hb hq => ?_⟩
          · obtain ⟨t, e1, e2⟩ := k2 x hx
            exact ⟨t, e1, s _ _ e2⟩
          · rw [← k1, ← sort_trips hs hb] at p
            exact post_own s p (trip_reps k ys fun y hy => k2 y (hb.perm.mem_iff.mp hy)) hq
        · exact False.elim p
  | _ => exact False.elim p

/-- the names that the language knows -/
def b1Name : B1 → Str
  | .len => "len"
  | .abs => "abs"
  | .int => "int"
  | .str => "str"
  | .sum => "sum"
  | .lst => "list"
  | .tup => "tuple"
  | .sorted => "sorted"
  | .max => "max"
  | .min => "min"
  | .sortr => "sorted"
/-- called without keywords -/
def plainB1 : B1 → Bool
  | .sortr => false
  | _ => true
/-- called where an exception is handled, too -/
def hotB1 : B1 → Bool
  | .len => true
  | .abs => true
  | .int => true
  | .str => true
  | _ => false
def b2Name : B2 → Str
  | .max => "max"
  | .min => "min"
def tyName : Ty → Str
  | .int => "int"
  | .bool => "bool"
  | .str => "str"
  | .lst => "list"
  | .tup => "tuple"
theorem geI_total : ∀ a b : Int, (geI a b || geI b a) = true := fun a b => by
  unfold geI
  simp only [Bool.or_eq_true, decide_eq_true_eq]
  omega
theorem geI_trans : ∀ a b c : Int, geI a b = true → geI b c = true → geI a c = true := fun a b c h1 h2 => by
  unfold geI at *
  simp only [decide_eq_true_eq] at *
  omega
theorem sort_intsR {ns ns' : List Int} (h : ns'.Perm ns) (s : ns'.Pairwise (· ≥ ·)) : ns' = ns.mergeSort geI := by
  refine sort_uniq (le := geI) (fun a b h1 h2 => by unfold geI at *; simp only [decide_eq_true_eq] at *; omega) (s.imp fun q => decide_eq_true q) ?_ (h.trans (List.mergeSort_perm ns geI).symm)
  exact List.pairwise_mergeSort geI_trans geI_total ns
theorem l_sortr : RLst (PX X T ca xa) (b1 .sortr) (fun vs H Q => rSortedKw X.K true [.bl true] vs [.bl true] H Q) := by
  intro W σ G H x d Q s r p
  cases d with
  | lst ds =>
    obtain ⟨a, vs, rfl, h, rr⟩ := r.lst s
    simp only [b1] at p
    split at p
    · rename_i ns e
      obtain ⟨e1, _⟩ := rr.intsOf e
      subst e1
      refine ⟨a, ns, rfl, rfl, h, fun ns' q hp hs hq => ?_⟩
      rw [sort_intsR hp hs]
      exact post_own s p (Reps.ints _) hq
    · exact False.elim p
  | _ => exact False.elim p
theorem s_sortr {p q kp : Pos} {j : Nat} (hc : X.calm = true) (hg : Gl X "sorted") (hm : X.mg "sorted" = none) (ha : SP' X T ca xa cx G0 H0 W a fa) (hn : noStar a = true) : SE X T ca xa cx G0 H0 W (.Call (.Name "sorted" p) [a] [⟨some "reverse", .Constant (.bool true) j q, kp⟩] pos) fun env => (fa env).bind fun x => b1 .sortr x := by
  have st := star_cons (es := []) (env := X.env) hn
  exact s_call1 l_sortr ha hn fun t => pe_callBK (es := []) cr_sortedRev hg hm (by decide +kernel) t (pk_cons pe_bl pk_nil) (he := by rw [st]; rfl) (hpl := star_any (es := [a]) (by simp [hn]))
theorem s_b1 {k : B1} {p : Pos} (hk : plainB1 k = true) (hc : hotB1 k = true ∨ X.calm = true) (hg : Gl X (b1Name k)) (hm : X.mg (b1Name k) = none) (ha : SP' X T ca xa cx G0 H0 W a fa) (hn : noStar a = true) : SE X T ca xa cx G0 H0 W (.Call (.Name (b1Name k) p) [a] [] pos) fun env => (fa env).bind fun x => b1 k x := by
  have st := star_cons (es := []) (env := X.env) hn
  cases k with
  | len => exact s_call1 l_len ha hn fun t => pe_callB call_len hg hm PySem.boot_len t (he := st)
  | abs => exact s_call1 l_abs ha hn fun t => pe_callB call_abs hg hm (by decide +kernel) t (he := st)
  | int => exact s_call1 l_int ha hn fun t => pe_callTy (call_int1.or call_int_str) hg hm (by decide +kernel) t (he := st)
  | str => exact s_call1 l_str ha hn fun t => pe_callTy call_str_int hg hm (by decide +kernel) t (he := st)
  | sum => exact s_call1 l_sum ha hn fun t => pe_callB (cr_sum (hc.resolve_left (by decide))) hg hm (by decide +kernel) t (he := st)
  | lst => exact s_call1 l_lst ha hn fun t => pe_callTy call_list_of hg hm (by decide +kernel) t (he := st)
  | tup => exact s_call1 l_tup ha hn fun t => pe_callTy call_tuple_of hg hm (by decide +kernel) t (he := st)
  | sorted => exact s_call1 l_sorted ha hn fun t => pe_callB ((cr_sortedI.or cr_sortedPO).or cr_sorted3) hg hm (by decide +kernel) t (he := st)
  | max => exact s_call1 l_max ha hn fun t => pe_callB (cr_max (hc.resolve_left (by decide))) hg hm (by decide +kernel) t (he := st)
  | min => exact s_call1 l_min ha hn fun t => pe_callB (cr_min (hc.resolve_left (by decide))) hg hm (by decide +kernel) t (he := st)
  | sortr => cases hk
theorem s_fmt (ha : SE X T ca xa cx G0 H0 W a f) : SE X T ca xa cx G0 H0 W (.FormattedValue a (-1) none pos) fun env => (f env).bind fmtV :=
  (pe_fmt ha).imp fun σ H Q ⟨G, env, rel, p⟩ => ⟨G, env, rel, Post.bind anti_RV p fun da x H1 G1 s1 r1 q1 => by
    cases da with
    | own ds => exact False.elim q1
    | val d =>
      cases d with
      | str y =>
        simp only [fmtV] at q1
        split at q1
        · rename_i hz
          exact .inl ⟨y, RP.str (H0 := H) r1.toP, by rw [sizeLine_eq]; exact hz, post_val s1.gh q1 (.str _)⟩
        · exact False.elim q1
      | int i =>
        simp only [fmtV] at q1
        split at q1
        · rename_i hz
          exact .inr ⟨i, RP.int (H0 := H) r1.toP, hz, post_val s1.gh q1 (.str _)⟩
        · exact False.elim q1
      | _ => exact False.elim q1⟩
/-- an f-string's parts -/
def SJ (X : Cx) (T : Tab) (ca xa : Nat → Addr) (cx : Hand) (G0 H0 : Hp) (W : WX) (es : List Expr) (f : Str → Env → Res Vl) : Prop := ∃ ts, PJ X es ts ∧ ∀ (acc : Str) (σ : St) (G H : Hp) (env : Env) (Q : VK), Rel (PX X T ca xa) cx G0 H0 G H σ env → Post (PX X T ca xa) W σ G H (RV (PX X T ca xa)) (f acc env) Q → tJs ts acc σ H fun out H1 => Q (.str out) H1
theorem sj_nil : SJ X T ca xa cx G0 H0 W [] fun acc _ => .ok (.val (.str acc)) := ⟨[], .nil, fun acc σ G H env Q rel p => post_val rel.gh p (.str _)⟩
theorem sj_cons {es : List Expr} {h : Str → Env → Res Vl} (ha : SE X T ca xa cx G0 H0 W a f) (hb : SJ X T ca xa cx G0 H0 W es h) : SJ X T ca xa cx G0 H0 W (a :: es) fun acc env => (f env).bind fun x => jsStep acc x fun y => h y env := by
  obtain ⟨ts, h1, h2⟩ := hb
  refine ⟨_ :: ts, .cons ha h1, fun acc σ G H env Q rel p => ⟨G, env, rel, Post.bind anti_RV p fun da x H1 G1 s1 r1 q1 => ?_⟩⟩
  cases da with
  | own ds => exact False.elim q1
  | val d =>
    cases d with
    | str y =>
      simp only [jsStep] at q1
      split at q1
      · rename_i hz
        exact ⟨y, RP.str (H0 := H) r1.toP, by rw [sizeLine_eq]; exact hz, h2 _ σ G1 H1 env Q (rel.step s1) q1⟩
      · exact False.elim q1
    | _ => exact False.elim q1
theorem s_js {es : List Expr} {h : Str → Env → Res Vl} (hb : SJ X T ca xa cx G0 H0 W (a :: b :: es) h) : SE X T ca xa cx G0 H0 W (.JoinedStr (a :: b :: es) pos) fun env => h PySem.Str.empty env := by
  obtain ⟨ts, h1, h2⟩ := hb
  exact (pe_joined h1).imp fun σ H Q ⟨G, env, rel, p⟩ => h2 _ σ G H env Q rel p
theorem s_lrg {p p2 pos2 : Pos} (hc : X.calm = true) (hg : Gl X "list") (hm : X.mg "list" = none) (hg2 : Gl X "range") (hm2 : X.mg "range" = none) (ha : SE X T ca xa cx G0 H0 W a f) (hn : noStar a = true) :
    SE X T ca xa cx G0 H0 W (.Call (.Name "list" p) [.Call (.Name "range" p2) [a] [] pos2] [] pos) fun env => (f env).bind fun x => (asInt x).bind fun i => if inR i && decide (i ≤ SL) then .ok (.own (rangeD 0 i)) else .bad :=
  (pe_listRg hc hg hm (prg_1 hg2 hm2 ha (star_cons (es := []) hn))).imp fun σ H Q ⟨G, env, rel, p⟩ => ⟨G, env, rel, Post.bind anti_RV p fun da x H1 G1 s1 r1 q1 => by
    obtain ⟨i, e, q2⟩ := post_int r1 q1
    subst e
    split at q2
    · rename_i hz
      simp only [inR, Bool.and_eq_true, decide_eq_true_eq] at hz
      have hS : SL = 16777216 := rfl
      refine ⟨i, rfl, ⟨by omega, by omega, hz.1.1, hz.1.2, by omega⟩, fun q hq => post_own s1.gh q2 ?_ hq⟩
      have e1 : rgV 0 i = ((List.range (i - 0).toNat).map fun (k : Nat) => (0 : Int) + (k : Int)).map V.int := by
        unfold rgV
        rw [List.map_map]
        rfl
      have e2 : rangeD 0 i = ((List.range (i - 0).toNat).map fun (k : Nat) => (0 : Int) + (k : Int)).map D.int := by
        unfold rangeD
        rw [List.map_map]
        rfl
      rw [e1, e2]
      exact Reps.ints _
    · exact False.elim q2⟩
theorem s_lrg2 {p p2 pos2 : Pos} (hc : X.calm = true) (hg : Gl X "list") (hm : X.mg "list" = none) (hg2 : Gl X "range") (hm2 : X.mg "range" = none) (ha : SE X T ca xa cx G0 H0 W a f) (hb : SE X T ca xa cx G0 H0 W b g) (hn : noStar a = true) (hn2 : noStar b = true) :
    SE X T ca xa cx G0 H0 W (.Call (.Name "list" p) [.Call (.Name "range" p2) [a, b] [] pos2] [] pos) fun env => (f env).bind fun x => (g env).bind fun y => (asInt x).bind fun i => (asInt y).bind fun j => if inR i && (inR j && decide (j - i ≤ SL)) then .ok (.own (rangeD i j)) else .bad :=
  (pe_listRg hc hg hm (prg_2 hg2 hm2 ha hb (star_cons (es := [b]) hn) (star_cons (es := []) hn2) (star_any (by simp [hn2])))).imp fun σ H Q ⟨G, env, rel, p⟩ => ⟨G, env, rel, Post.bind anti_RV p fun da x H1 G1 s1 r1 q1 => ⟨G1, env, rel.step s1, Post.bind anti_RV q1 fun db y H2 G2 s2 r2 q2 => by
    obtain ⟨i, e, q3⟩ : ∃ i, x = .int i ∧ Post (PX X T ca xa) W σ G2 H2 (RV (PX X T ca xa)) ((asInt db).bind fun j => if inR i && (inR j && decide (j - i ≤ SL)) then .ok (.own (rangeD i j)) else .bad) Q := by
      cases ex : asInt da with
      | ok i => rw [ex] at q2; exact ⟨i, vint r1 ex, q2⟩
      | err k fs => exact (no_err_int ex).elim
      | bad => rw [ex] at q2; exact False.elim q2
    subst e
    obtain ⟨j, e, q4⟩ := post_int r2 q3
    subst e
    split at q4
    · rename_i hz
      simp only [inR, Bool.and_eq_true, decide_eq_true_eq] at hz
      have hS : SL = 16777216 := rfl
      refine ⟨i, j, rfl, rfl, ⟨by omega, by omega, by omega, by omega, by omega⟩, fun q hq => post_own s2.gh q4 ?_ hq⟩
      have e1 : rgV i j = ((List.range (j - i).toNat).map fun (k : Nat) => i + (k : Int)).map V.int := by
        unfold rgV
        rw [List.map_map]
        rfl
      have e2 : rangeD i j = ((List.range (j - i).toNat).map fun (k : Nat) => i + (k : Int)).map D.int := by
        unfold rangeD
        rw [List.map_map]
        rfl
      rw [e1, e2]
      exact Reps.ints _
    · exact False.elim q4⟩⟩
theorem s_b2 {k : B2} {p : Pos} (hc : X.calm = true) (hg : Gl X (b2Name k)) (hm : X.mg (b2Name k) = none) (ha : SP' X T ca xa cx G0 H0 W a fa) (hb : SP' X T ca xa cx G0 H0 W b fb) (hn : noStar a = true) (hn2 : noStar b = true) :
    SE X T ca xa cx G0 H0 W (.Call (.Name (b2Name k) p) [a, b] [] pos) fun env => (fa env).bind fun x => (fb env).bind fun y => b2 k x y := by
  have st := star_cons (es := [b]) (env := X.env) hn
  have an : ((backTo pos (starEach [b] X.env)).any (·.1)) = false := star_any (by simp [hn2])
  have pa := pa_cons ha (pa_cons hb pa_nil (star_cons (es := []) (env := X.env) hn2)) st
  cases k with
  | max =>
    refine (pe_callB (call_max2 hc) hg hm (by decide +kernel) pa (he := st) (hpl := an)).imp fun σ H Q ⟨G, env, rel, p⟩ => ⟨G, env, rel, Post.bind anti_RV p fun da x H1 G1 s1 r1 q1 => ⟨G1, env, rel.step s1, Post.bind anti_RV q1 fun db y H2 G2 s2 r2 q2 => ?_⟩⟩
    cases da with
    | int i => cases db with
      | int j => exact ⟨i, j, by rw [RP.int r1, RP.int r2], post_val s2.gh q2 (.int _)⟩
      | _ => exact False.elim q2
    | _ => cases db <;> exact False.elim q2
  | min =>
    refine (pe_callB (call_min2 hc) hg hm (by decide +kernel) pa (he := st) (hpl := an)).imp fun σ H Q ⟨G, env, rel, p⟩ => ⟨G, env, rel, Post.bind anti_RV p fun da x H1 G1 s1 r1 q1 => ⟨G1, env, rel.step s1, Post.bind anti_RV q1 fun db y H2 G2 s2 r2 q2 => ?_⟩⟩
    cases da with
    | int i => cases db with
      | int j => exact ⟨i, j, by rw [RP.int r1, RP.int r2], post_val s2.gh q2 (.int _)⟩
      | _ => exact False.elim q2
    | _ => cases db <;> exact False.elim q2
def tyId : Ty → String
  | .int => "int"
  | .bool => "bool"
  | .str => "str"
  | .lst => "list"
  | .tup => "tuple"
/-- the type of data, and whether it is of another -/
theorem isTy_of {P : Par} {H' G H : Hp} {v : V} {d : D} {t : Ty} {k : Bool} (s : Same G H) (r : RP P H' G H v d) (e : isTy d t = .ok k) : ∃ n : String, TyX P.K H v (.type n) ∧ kitB n (tyId t) = some k := by
  cases d with
  | non => refine ⟨"NoneType", ?_, ?_⟩
           · rw [r.non]; exact .base .non
           · cases t <;> cases e <;> decide +kernel
  | bl b => refine ⟨"bool", ?_, ?_⟩
            · rw [r.bl]; exact .base (.bl b)
            · cases t <;> cases e <;> decide +kernel
  | int b => refine ⟨"int", ?_, ?_⟩
             · rw [r.int]; exact .base (.int b)
             · cases t <;> cases e <;> decide +kernel
  | str b => refine ⟨"str", ?_, ?_⟩
             · rw [r.str]; exact .base (.str b)
             · cases t <;> cases e <;> decide +kernel
  | lst ds =>
    obtain ⟨a, vs, rfl, h, rr⟩ := r.lst s
    refine ⟨"list", ?_, ?_⟩
    · rcases h with (h | ⟨o, h⟩) | ⟨o, its, n, h1, h2, _⟩
      · exact .base (.lst h)
      · exact .base (.frz h)
      · exact .kList h1 h2
    · cases t <;> cases e <;> decide +kernel
  | tup ds =>
    obtain ⟨a, vs, rfl, h, rr⟩ := r.tup
    refine ⟨"tuple", .base (.tup (s _ _ h)), ?_⟩
    cases t <;> cases e <;> decide +kernel
  | ins _ _ => cases e
theorem s_isi {t : Ty} {p q : Pos} (hg : Gl X "isinstance") (hm : X.mg "isinstance" = none) (hg2 : Gl X (tyName t)) (hm2 : X.mg (tyName t) = none) (ha : SP' X T ca xa cx G0 H0 W a fa) (hn : noStar a = true) :
    SE X T ca xa cx G0 H0 W (.Call (.Name "isinstance" p) [a, .Name (tyName t) q] [] pos) fun env => (fa env).bind fun x => ofB (isTy x t) := by
  have st := star_cons (es := [.Name (tyName t) q]) (env := X.env) hn
  have pt : PE X (.Name (tyName t) q) (tC (.ty (tyId t))) := by
    cases t <;> exact pe_bltn hg2 hm2 (by decide +kernel) (show RelV (.ty _) (.type _) from rfl)
  refine (pe_callB call_isi hg hm (by decide +kernel) (pa_cons ha (pa_cons pt pa_nil) st) (he := st)).imp fun σ H Q ⟨G, env, rel, p⟩ => ⟨G, env, rel, Post.bind anti_RV p fun da x H1 G1 s1 r1 q1 => ?_⟩
  cases e : isTy da t with
  | ok k =>
    rw [e] at q1
    obtain ⟨n, h1, h2⟩ := isTy_of s1.gh r1 e
    exact ⟨x, .ty (tyId t), _, _, k, rfl, .ty _, h1, kit_ty h2, post_val s1.gh q1 (.bl k)⟩
  | err k fs => cases da <;> cases t <;> cases e
  | bad => rw [e] at q1; exact False.elim q1

/-! ### methods of texts -/
def m1Name : M1 → Str
  | .join => "join"
  | .split => "split"
  | .part => "partition"
  | .ends => "endswith"
  | .rmpre => "removeprefix"
  | .zfill => "zfill"
  | .count => "count"
def RMt (P : Par) (g : Str → D → Res Vl) (r : V → List V → Hp → VK → Prop) : Prop := ∀ (W : WX) (σ : St) (G H : Hp) (z : Str) (y : V) (d : D) (Q : VK), Same G H → RP P H G H y d → Post P W σ G H (RV P) (g z d) Q → r (.str z) [y] H Q
theorem s_m {r : V → List V → Hp → VK → Prop} {g : Str → D → Res Vl} {e : Expr} (hp : RMt (PX X T ca xa) g r) (ho : SE X T ca xa cx G0 H0 W b f) (ha : SP' X T ca xa cx G0 H0 W a fa) (he : ∀ {to te : TE}, PE X b to → PE X a te → PE X e (tM1 r to te)) :
    SE X T ca xa cx G0 H0 W e fun env => (f env).bind fun x => (match x.d with
      | .str z => (fa env).bind fun y => g z y
      | _ => .bad) :=
  (he ho ha).imp fun σ H Q ⟨G, env, rel, p⟩ => ⟨G, env, rel, Post.bind anti_RV p fun rd x H1 G1 s1 r1 q1 => by
    cases rd with
    | own ds => exact False.elim q1
    | val d =>
      cases d with
      | str z =>
        have r1 : Rep _ G1 x (.str z) := r1
        cases r1
        exact ⟨⟨z, rfl⟩, G1, env, rel.step s1, Post.bind anti_RV q1 fun db y H2 G2 s2 r2 q2 => hp W σ G2 H2 z y db Q s2.gh r2 q2⟩
      | _ => exact False.elim q1⟩
theorem s_m1 {m : M1} {apos : Pos} (ho : SE X T ca xa cx G0 H0 W b f) (ha : SP' X T ca xa cx G0 H0 W a fa) (hn : noStar a = true) (hb : noSup b = true) (hl : (apos.endLine == pos.line) = true) :
    SE X T ca xa cx G0 H0 W (.Call (.Attribute b (m1Name m) apos) [a] [] pos) fun env => (f env).bind fun x => (match x.d with
      | .str z => (fa env).bind fun y => m1 m z y
      | _ => .bad) := by
  have st : starEach [a] X.env = [(false, eval a X.env)] := star_cons (es := []) hn
  cases m with
  | join =>
    refine s_m (g := m1 .join) (r := _) ?_ ho ha fun p q => pe_join p q st (base_ok hb) hl
    intro W σ G H z y d Q s r p
    cases d with
    | lst ds =>
      obtain ⟨a, vs, rfl, h, rr⟩ := r.lst s
      simp only [m1] at p
      split at p
      · rename_i zs e
        split at p
        · rename_i hz
          obtain ⟨e1, _⟩ := rr.strsOf e
          subst e1
          exact ⟨z, a, zs, rfl, rfl, .inl h, hz, post_val s p (.str _)⟩
        · exact False.elim p
      · exact False.elim p
    | _ => exact False.elim p
  | split =>
    refine s_m (g := m1 .split) (r := _) ?_ ho ha fun p q => pe_split p q st (base_ok hb) hl
    intro W σ G H z y d Q s r p
    cases d with
    | str w =>
      simp only [m1] at p
      split at p
      · rename_i hz
        exact ⟨z, w, rfl, by rw [r.str], hz.1, by rw [sizeLine_eq]; exact hz.2, fun q hq => post_own s p (by rw [show List.map D.str (Txt.split z w) = (Txt.split z w).map D.str from rfl]; exact Reps.strs _) hq⟩
      · exact False.elim p
    | _ => exact False.elim p
  | part =>
    refine s_m (g := m1 .part) (r := _) ?_ ho ha fun p q => pe_partition p q st (base_ok hb) hl
    intro W σ G H z y d Q s r p
    cases d with
    | str w =>
      simp only [m1] at p
      split at p
      · rename_i hz
        exact ⟨z, w, rfl, by rw [r.str], hz.1, by rw [sizeLine_eq]; exact hz.2, fun q hq => post_tup s p (.cons (.str _) (.cons (.str _) (.cons (.str _) .nil))) hq⟩
      · exact False.elim p
    | _ => exact False.elim p
  | ends =>
    refine s_m (g := m1 .ends) (r := _) ?_ ho ha fun p q => pe_m1 F.slot_str_endswith F.type_str_endswith mt_endswith p q st (base_ok hb) hl
    intro W σ G H z y d Q s r p
    cases d with
    | str w => exact ⟨z, w, rfl, by rw [r.str], post_val s p (.bl _)⟩
    | _ => exact False.elim p
  | count =>
    refine s_m (g := m1 .count) (r := _) ?_ ho ha fun p q => pe_m1 F.slot_str_count F.type_str_count mt_count p q st (base_ok hb) hl
    intro W σ G H z y d Q s r p
    cases d with
    | str w => exact ⟨z, w, rfl, by rw [r.str], post_val s p (.int _)⟩
    | _ => exact False.elim p
  | rmpre =>
    refine s_m (g := m1 .rmpre) (r := _) ?_ ho ha fun p q => pe_m1 F.slot_str_removeprefix F.type_str_removeprefix mt_removeprefix p q st (base_ok hb) hl
    intro W σ G H z y d Q s r p
    cases d with
    | str w =>
      simp only [m1] at p
      split at p
      · rename_i hz
        exact ⟨z, w, rfl, by rw [r.str], by rw [sizeLine_eq]; exact hz, post_val s p (.str _)⟩
      · exact False.elim p
    | _ => exact False.elim p
  | zfill =>
    refine s_m (g := m1 .zfill) (r := _) ?_ ho ha fun p q => pe_m1 F.slot_str_zfill F.type_str_zfill mt_zfill p q st (base_ok hb) hl
    intro W σ G H z y d Q s r p
    cases d with
    | int w =>
      simp only [m1] at p
      split at p
      · rename_i hz
        exact ⟨z, w, rfl, by rw [r.int], hz, post_val s p (.str _)⟩
      · exact False.elim p
    | _ => exact False.elim p
end
section
variable {X : Cx} {T : Tab} {ca xa : Nat → Addr} {cx : Hand} {G0 H0 : Hp} {W : WX} {pos : Pos}
theorem s_lidx {b a : Expr} {fb : Env → Res D} {fa : Env → Res Vl} {apos : Pos} (ho : SP' X T ca xa cx G0 H0 W b fb) (ha : SE X T ca xa cx G0 H0 W a fa) (hn : noStar a = true) (hb : noSup b = true) (hl : (apos.endLine == pos.line) = true) :
    SE X T ca xa cx G0 H0 W (.Call (.Attribute b "index" apos) [a] [] pos) fun env => (fb env).bind fun x => (match x with
      | .lst ds => (fa env).bind fun y => (match y with
        | .val (.int k) => (match intsOf ds with
          | some ns => if k ∈ ns then .ok (.val (.int (ns.idxOf k))) else .bad
          | none => .bad)
        | _ => .bad)
      | _ => .bad) := by
  have st : starEach [a] X.env = [(false, eval a X.env)] := star_cons (es := []) hn
  have hfew : ((backTo pos (starEach [a] X.env)).all (fun x => !x.1) && (backToKw pos (keywordEach [] X.env)).all (fun x => x.1.isSome)
      && decide ([a].length + ([] : List Keyword).length + (if ([] : List Keyword).isEmpty then 0 else 1) < 30)) = true := by rw [st]; rfl
  refine (pe_bm (apos := apos) (cpos := pos) PySem.F.plainAttrs_list PySem.F.slot_list_index PySem.F.type_list_index mt_index ho (pa_cons ha pa_nil st) (base_ok hb) hfew hl st (by rfl)).imp fun σ H Q ⟨G, env, rel, p⟩ => ?_
  refine ⟨G, env, rel, Post.bind anti_RV p fun rd x H1 G1 s1 r1 q1 => ?_⟩
  cases rd with
  | lst ds =>
    obtain ⟨l, vs, rfl, hs, rr⟩ := r1.lst s1.gh
    refine ⟨.inl ⟨rfl, vs, hs⟩, G1, env, rel.step s1, Post.bind anti_RV q1 fun db y H2 G2 s2 r2 q2 => ?_⟩
    cases db with
    | own _ => exact False.elim q2
    | val d =>
      cases d with
      | int k =>
        cases (show Rep _ G2 y (.int k) from r2) with
        | int k =>
        simp only at q2
        split at q2
        · rename_i ns e
          split at q2
          · rename_i hk
            obtain ⟨l', vs', e', hs2, rr2⟩ := (r1.step s2).lst s2.gh
            cases e'
            obtain ⟨e1, e2⟩ := rr2.intsOf e
            subst e1
            have hlt := List.idxOf_lt_length_of_mem hk
            refine ⟨l, ns.map V.int, .int k, ns.idxOf k, .int k, rfl, rfl, hs2, rfl, ?_, ?_, ?_, fun m z' hm hz => ?_, ?_⟩
            · rw [List.all_map, List.all_eq_true]; exact fun _ _ => rfl
            · rw [List.getElem?_map, List.getElem?_eq_getElem hlt, List.getElem_idxOf]; rfl
            · simp [eqV]
            · have hm2 : ¬ (ns.findIdx (· == k)) ≤ m := by
                have : ns.idxOf k = ns.findIdx (· == k) := rfl
                omega
              rw [List.getElem?_map] at hz
              cases e3 : ns[m]? with
              | none => rw [e3] at hz; cases hz
              | some q =>
                rw [e3] at hz
                injection hz with hz
                subst hz
                have := List.not_of_lt_findIdx (p := (· == k)) (xs := ns) (i := m) (by omega)
                obtain ⟨hml, hmq⟩ := List.getElem?_eq_some_iff.mp e3
                rw [hmq] at this
                simp [eqV]
                simpa using this
            · exact q2 _ _ _ (Step.refl s2.gh) (show Rep _ G2 _ (.int _) from .int _)
          · exact False.elim q2
        · exact False.elim q2
      | _ => exact False.elim q2
  | _ => exact False.elim q1
end
end PL

set_option linter.all false
set_option Elab.async false
set_option maxRecDepth 100000
set_option maxHeartbeats 1000000
/-! Soundness, part 6: fields, calls, methods, making. -/
namespace PL
open PySem PySem.Spec PyProof.Rows L2
section
variable {X : Cx} {T : Tab} {ca xa : Nat → Addr} {cx : Hand} {G0 H0 : Hp} {W : WX} {a b c d o : Expr} {fa fb fc fd : Env → Res D} {f g : Env → Res Vl} {pos : Pos}

theorem s_peekQ {i : Nat} {x : Str} {pos : Pos} (hN : X.N[i]? = some x) (hv : Vis X.env.scope x) (hd : (x == ("__debug__" : Str)) = false) (hcd : (x == ("__classdict__" : Str)) = false) : SQ X T ca xa cx G0 H0 W (.Name x pos) fun env => peekT env i :=
  (pe_var hN hv hd hcd).imp fun σ H Q ⟨G, env, rel, p⟩ => by
    dsimp only [peekT] at p
    cases e : env[i]? with
    | none => rw [e] at p; exact p.elim
    | some s =>
      have q := rel.sl i s e
      rw [e] at p
      cases s with
      | val d =>
        obtain ⟨v, e2, r⟩ := q
        exact ⟨v, e2, p v H G (Step.refl rel.gh) (.inl r)⟩
      | own ds =>
        obtain ⟨a, vs, e2, h1, _, _, r⟩ := q
        exact ⟨_, e2, p _ H G (Step.refl rel.gh) (.inr ⟨a, vs, ds, rfl, rfl, h1, r⟩)⟩
      | _ => exact p.elim

/-! ### fields -/
structure ClsOk (X : Cx) (T : Tab) (ca : Nat → Addr) (c : Nat) (ci : ClI) : Prop where
  at_ : T.cls[c]? = some ci
  cls : Cls X.K (ca c)
  no : ∀ n ∈ ci.fields, NoAttr X.K (ca c) n
theorem post_ins {G H : Hp} {v : V} {r : Vl} {k : Nat} {fs : List D} (h : RV (PX X T ca xa) H0 G H v r) (e : r.d = .ins k fs) : ∃ p dx ci l vs, v = .ref p ∧ G p = some (.ins (ca k) dx l) ∧ T.cls[k]? = some ci ∧ InsOk ci.fields l vs ∧ Reps (PX X T ca xa) G vs fs := by
  cases r with
  | own ds => cases e
  | val d =>
    have e : d = .ins k fs := e
    subst e
    cases (show Rep _ G v (.ins k fs) from h) with
    | ins h hc hi r => exact ⟨_, _, _, _, _, rfl, h, hc, hi, r⟩
theorem s_fld {k j : Nat} {ci : ClI} {n : Str} (ho : SE X T ca xa cx G0 H0 W o f) (hs : noSup o = true) (C : ClsOk X T ca k ci) (hn : ci.fields[j]? = some n) :
    SE X T ca xa cx G0 H0 W (.Attribute o n pos) fun env => (f env).bind fun x => (match x.d with
    | .ins k' fs => if k' = k then (match fs[j]? with
      | some d => .ok (.val d)
      | none => .bad) else .bad
    | _ => .bad) :=
  (pe_fld ho (base_ok hs)).imp fun σ H Q ⟨G, env, rel, p⟩ => ⟨G, env, rel, Post.bind anti_RV p fun r x H1 G1 s1 r1 q1 => by
    split at q1
    · rename_i k' fs e
      split at q1
      · rename_i ek
        subst ek
        split at q1
        · rename_i d ed
          obtain ⟨p, dx, ci', l, vs, rfl, h1, h2, h3, h4⟩ := post_ins r1 e
          rw [C.at_] at h2
          obtain rfl := Option.some.inj h2
          obtain ⟨v, e3, h5⟩ := h4.get ed
          exact ⟨p, ca k', dx, l, v, rfl, s1.gh _ _ h1, C.cls, C.no n (List.mem_of_getElem? hn), h3.at_ j n v hn e3, post_val s1.gh q1 h5⟩
        · exact False.elim q1
      · exact False.elim q1
    · exact False.elim q1⟩

/-! ### what a def promises -/
def spF (P : Par) (call : List D → Res Rt) (pm : List Bool) (n : Nat) : Sp := fun vs H Q E => pm.length = n ∧ ∃ G ds, Same G H ∧ RAL P G H pm vs ds ∧ Post P (fun c d _ H' => E c d H') [] G H (RX P) (call ds) Q
/-- an answer as a value -/
def flC (call : List D → Res Rt) : List D → Res Vl := fun ds => (call ds).bind fun r => .ok r.fl
theorem post_fl {P : Par} {W : WX} {σ : St} {G H : Hp} {r : Res Rt} {Q : VK} (h : Post P W σ G H (RV P) (r.bind fun r => .ok r.fl) Q) : Post P W σ G H (RX P) r Q := by
  cases r with
  | ok a =>
    intro x H' G' s q
    obtain ⟨G2, s2, _, rv⟩ := RX.fl q s
    exact h x H' G2 s2 rv
  | err k fs => exact h
  | bad => exact h
/-- an __init__ -/
def spI (P : Par) (c : Nat) (call : List D → Res Vl) (pm : List Bool) (n : Nat) : Sp := fun vs H Q E => pm.length + 1 = n ∧ ∃ G H1 ds x dx vs', Same G H1 ∧ RAL P G H1 pm vs' ds ∧ H1 x = none ∧ H1 dx = none ∧ dx ≠ x ∧ vs = .ref x :: vs' ∧ H = upd (upd H1 dx (.own x)) x (.ins (P.ca c) dx []) ∧
  Post P (fun c d _ H' => E c d H') [] G H1 (RV P) (call ds) (fun v H' => v = .ref x → Q .non H')
theorem spF_len {P : Par} {call : List D → Res Rt} {pm : List Bool} {n : Nat} : ∀ vs H Q E, spF P call pm n vs H Q E → vs.length = n := fun vs H Q E ⟨e, G, ds, _, r, _⟩ => r.len.1.trans e
theorem spI_len {P : Par} {c : Nat} {call : List D → Res Vl} {pm : List Bool} {n : Nat} : ∀ vs H Q E, spI P c call pm n vs H Q E → vs.length = n := fun vs H Q E ⟨e, G, H1, ds, x, dx, vs', _, r, _, _, _, e2, _⟩ => by
  rw [e2, List.length_cons, r.len.1]
  exact e
theorem post_E {P : Par} {σ : St} {G H : Hp} {α : Type} {R : Hp → Hp → Hp → V → α → Prop} {r : Res α} {Q : VK} (h : Post P W σ G H R r Q) : Post P (fun c d _ H' => WE W σ c d H') [] G H R r Q := by
  cases r with
  | ok a => exact h
  | err k fs => exact h
  | bad => exact h

/-! ### calls -/
theorem pe_call0S {CX : CXT} {k : Nat} {f : Addr} {fd : FuncData} {ps : List Str} {sp : Sp} {E : St → XK} {x : Str} {p pos : Pos} (F : FnOk X.prog X.w X.K X.mg X.base CX k f fd ps sp) (hr : Room k X.A) (hg : Gl X x) (hm : X.mg x = some (.ref f)) (hk : PySem.W.keepIn X.K (.ref f) = true) (hb : Binds X.K fd ps []) (hx : ∀ σ, PassesAt CX X σ (E σ))
    (hdb : (x == ("__debug__" : Str)) = false) : PE X (.Call (.Name x p) [] [] pos) (tCallS sp E tNil) := by
  refine ⟨fun pins s σ H Q I h => ?_⟩
  refine wpAny_Call_Name_kw (ld_glob I hg hm ?_ hdb)
  exact PySem.W.callWith_K0 I.kIn hk (run_fnS (us := []) F hr hb (hx σ) I .nil h)
/-- f(..) -/
structure FnAt (X : Cx) (T : Tab) (ca xa : Nat → Addr) (W : WX) (nm : Str) (call : List D → Res Rt) (pm : List Bool) : Prop where
  tk : L2N.Takes X W
  at_ : ∃ k f fd ps, FnOk X.prog X.w X.K X.mg X.base (L2N.CX X.prog X.w) k f fd ps (spF (PX X T ca xa) call pm ps.length) ∧ Room k X.A ∧ X.mg nm = some (.ref f) ∧ PySem.W.keepIn X.K (.ref f) = true ∧ Binds X.K fd ps [] ∧ pm.length = ps.length
theorem s_call {nm : Str} {call : List D → Res Rt} {pm : List Bool} {es : List Expr} {h : Env → Res (List D)} {p : Pos} (F : FnAt X T ca xa W nm call pm) (hg : Gl X nm) (hdb : (nm == ("__debug__" : Str)) = false) (ha : SAR X T ca xa cx G0 H0 W pm es h) (hns : es.all noStar = true) (hne : es ≠ []) :
    SE X T ca xa cx G0 H0 W (.Call (.Name nm p) es [] pos) fun env => (h env).bind (flC call) := by
  obtain ⟨k, f, fd, ps, F1, hr, hm, hk, hb, hl⟩ := F.at_
  cases es with
  | nil => exact absurd rfl hne
  | cons e es =>
    simp only [List.all_cons, Bool.and_eq_true] at hns
    refine (pe_callS (E := WE W) F1 hr hg hm hk hb (fun σ => L2N.passAt F.tk σ) ha hdb (star_cons hns.1) (star_any hns.2)).imp fun σ H Q ⟨G, env, rel, p⟩ => ?_
    exact ⟨G, env, rel, Post.bind anti_RV p fun ds vs H1 G1 s1 r1 q1 => ⟨hl, G1, ds, s1.gh, r1, post_E (post_fl q1)⟩⟩
theorem s_call0 {nm : Str} {call : List D → Res Rt} {p : Pos} (F : FnAt X T ca xa W nm call []) (hg : Gl X nm) (hdb : (nm == ("__debug__" : Str)) = false) :
    SE X T ca xa cx G0 H0 W (.Call (.Name nm p) [] [] pos) fun env => flC call [] := by
  obtain ⟨k, f, fd, ps, F1, hr, hm, hk, hb, hl⟩ := F.at_
  refine (pe_call0S (E := WE W) F1 hr hg hm hk hb (fun σ => L2N.passAt F.tk σ) hdb).imp fun σ H Q ⟨G, env, rel, p⟩ => ?_
  exact ⟨hl, G, [], rel.gh, .nil, post_E (post_fl p)⟩

/-- f(..) within an except suite -/
structure FnHAt (X : Cx) (T : Tab) (ca xa : Nat → Addr) (W : WX) (nm : Str) (call : List D → Res Rt) (pm : List Bool) : Prop where
  tk : L2N.Takes X W
  hc : L2H.HotC X
  at_ : ∃ k f fd ps, L2H.FnH X.prog X.w X.K X.mg X.base (L2N.CX X.prog X.w) k f fd ps (spF (PX X T ca xa) call pm ps.length) ∧ L2H.RoomH k X.A ∧ X.mg nm = some (.ref f) ∧ PySem.W.keepIn X.K (.ref f) = true ∧ Binds X.K fd ps [] ∧ pm.length = ps.length
theorem s_callH {nm : Str} {call : List D → Res Rt} {pm : List Bool} {es : List Expr} {h : Env → Res (List D)} {p : Pos} (F : FnHAt X T ca xa W nm call pm) (hg : Gl X nm) (hdb : (nm == ("__debug__" : Str)) = false) (ha : SAR X T ca xa cx G0 H0 W pm es h) (hns : es.all noStar = true) (hne : es ≠ []) :
    SE X T ca xa cx G0 H0 W (.Call (.Name nm p) es [] pos) fun env => (h env).bind (flC call) := by
  obtain ⟨k, f, fd, ps, F1, hr, hm, hk, hb, hl⟩ := F.at_
  cases es with
  | nil => exact absurd rfl hne
  | cons e es =>
    simp only [List.all_cons, Bool.and_eq_true] at hns
    refine (L2H.pe_callH (E := WE W) F1 hr F.hc hg hm hk hb (fun σ => L2N.passAt F.tk σ) ha hdb (star_cons hns.1) (star_any hns.2)).imp fun σ H Q ⟨G, env, rel, p⟩ => ?_
    exact ⟨G, env, rel, Post.bind anti_RV p fun ds vs H1 G1 s1 r1 q1 => ⟨hl, G1, ds, s1.gh, r1, post_E (post_fl q1)⟩⟩

/-! ### methods -/
theorem few_ok {es : List Expr} {pos : Pos} {env : PySem.Env} (hns : es.all noStar = true) (hl : es.length < 29) : methodCallForm (es.length + 0) (backTo pos (starEach es env)) (backToKw pos (keywordEach [] env)) = true := by
  have h1 : (backTo pos (starEach es env)).all (fun a => !a.1) = true := by
    have := star_any (pos := pos) (env := env) hns
    rw [List.any_eq_false] at this
    exact List.all_eq_true.mpr fun x hx => by simpa using this x hx
  unfold methodCallForm
  rw [h1]
  simp [keywordEach, backToKw]
  omega
theorem mcall_eq {m : Str} {apos pos : Pos} {es : List Expr} {env : PySem.Env} (hs : noSup o = true) (hp : (apos.endLine == pos.line) = true) (hns : es.all noStar = true) (hl : es.length < 29) :
    eval (.Call (.Attribute o m apos) es [] pos) env = (do
      let ov ← eval o env
      standAt apos.atName
      let (f, first) ← holding [ov] (getMethod ov m (do return (← importBound o env).getD true))
      callWith pos f first (backTo pos (starEach es env)) (backToKw pos (keywordEach [] env))) := by
  have e1 : eval (.Call (.Attribute o m apos) es [] pos) env = (do
    let ov ← attributeBase o m env (eval o env)
    standAt apos.atName
    methodCall o m apos pos env ov (es.length + 0) (backTo pos (starEach es env)) (backToKw pos (keywordEach [] env))) := rfl
  rw [e1, base_ok hs]
  have e2 : ∀ ov, methodCall o m apos pos env ov (es.length + 0) (backTo pos (starEach es env)) (backToKw pos (keywordEach [] env)) = (do
      let (f, first) ← holding [ov] (getMethod ov m (do return (← importBound o env).getD true))
      callWith pos f first (backTo pos (starEach es env)) (backToKw pos (keywordEach [] env))) := fun ov => by
    unfold methodCall
    rw [few_ok hns hl]
    have e3 : methodCallPos true o env apos pos = pure pos := by
      unfold methodCallPos
      rw [hp]
      rfl
    rw [e3]
    simp only [calleeOf, if_true, pure_bind]
  simp only [e2]
structure MtAt (X : Cx) (T : Tab) (ca xa : Nat → Addr) (W : WX) (c : Nat) (m : Str) (call : List D → Res Rt) (pm : List Bool) : Prop where
  tk : L2N.Takes X W
  at_ : ∃ ci k f fd ps, T.cls[c]? = some ci ∧ m ∉ ci.fields ∧ Cls X.K (ca c) ∧ Meth X.K (ca c) m f ∧ FnOk X.prog X.w X.K X.mg X.base (L2N.CX X.prog X.w) k f fd ps (spF (PX X T ca xa) call (false :: pm) ps.length) ∧ Room k X.A ∧ Binds X.K fd ps [] ∧ pm.length + 1 = ps.length
theorem pe_methS {CX : CXT} {C : Addr} {k : Nat} {g : Addr} {fd : FuncData} {ps : List Str} {sp : Sp} {E : St → XK} {m : Str} {apos pos : Pos} {es : List Expr} {t : TA} {ta : TE} (he : PE X o ta) (c : Cls X.K C) (hm : Meth X.K C m g) (F : FnOk X.prog X.w X.K X.mg X.base CX k g fd ps sp) (hr : Room k X.A) (hb : Binds X.K fd ps []) (hx : ∀ σ, PassesAt CX X σ (E σ))
    (ha : PA X es t) (hns : es.all noStar = true) (hl : es.length < 29) (hs : noSup o = true) (hp : (apos.endLine == pos.line) = true) (h0 : es = [] → ∀ σ H Q, t σ H Q → Q [] H) :
    PE X (.Call (.Attribute o m apos) es [] pos) (fun σ H Q => ta σ H fun x H1 => ∃ a dx fs, x = .ref a ∧ H1 a = some (.ins C dx fs) ∧ fs.lookup m = none ∧ t σ H1 fun vs H2 => sp (x :: vs) H2 Q (E σ)) := by
  refine ⟨fun pins s σ H Q I h => ?_⟩
  refine PySem.W.methodCall_KW (thn (he.run pins s σ H _ I h) fun u s1 ⟨x, H1, I1, rx, a, dx, fs, ex, ea, l, q⟩ => ?_) (mcall_eq hs hp hns hl)
  subst ex
  obtain rfl : u = Value.ref a := rx
  refine getmeth_ok I1 ea c hm l ?_
  cases es with
  | nil => exact PySem.W.callWith_K0 (first := [.ref a]) I1.kIn hm.kp (run_fnS (us := [.ref a]) (vs := [.ref a]) F hr hb (hx σ) I1 (.cons rfl .nil) (h0 rfl _ _ _ q))
  | cons e es =>
    simp only [List.all_cons, Bool.and_eq_true] at hns
    refine PySem.W.callWith_K (first := [.ref a]) (h₀ := X.base) I1.ok.mod.kin hm.kp (thn (ha.run pos pins s1 σ H1 _ I1 q) fun us s2 ⟨vs, H2, I2, r, q2⟩ => ⟨I2.kIn, ?_⟩) (star_cons hns.1) (star_any hns.2)
    exact run_fnS (us := .ref a :: us) (vs := .ref a :: vs) F hr hb (hx σ) I2 (.cons rfl r) q2
theorem s_mth {c : Nat} {m : Str} {call : List D → Res Rt} {pm : List Bool} {es : List Expr} {h : Env → Res (List D)} {apos : Pos} (F : MtAt X T ca xa W c m call pm) (ho : SE X T ca xa cx G0 H0 W o f) (ha : SAR X T ca xa cx G0 H0 W pm es h) (hns : es.all noStar = true) (hl : es.length < 29) (hs : noSup o = true) (hp : (apos.endLine == pos.line) = true)
    (h0 : es = [] → pm = [] ∧ ∀ env, h env = .ok []) :
    SE X T ca xa cx G0 H0 W (.Call (.Attribute o m apos) es [] pos) fun env => (f env).bind fun x => (match x.d with
    | .ins k' fs => if k' = c then (h env).bind fun ds => flC call (.ins c fs :: ds) else .bad
    | _ => .bad) := by
  obtain ⟨ci, k, g, fd, ps, hc, hno, hcl, hm, F1, hr, hb, hlen⟩ := F.at_
  have main : PE X (.Call (.Attribute o m apos) es [] pos) (fun σ H Q => tR (PX X T ca xa) cx G0 H0 W (RV (PX X T ca xa)) f σ H fun x H1 => ∃ a dx fs, x = .ref a ∧ H1 a = some (.ins (ca c) dx fs) ∧ fs.lookup m = none ∧
      tR (PX X T ca xa) cx G0 H0 W (RA (PX X T ca xa) pm) h σ H1 fun vs H2 => spF (PX X T ca xa) call (false :: pm) ps.length (x :: vs) H2 Q (WE W σ)) :=
    pe_methS (E := WE W) ho hcl hm F1 hr hb (fun σ => L2N.passAt F.tk σ) ha hns hl hs hp fun e σ H Q ⟨G, env, rel, q⟩ => by
      obtain ⟨e1, e2⟩ := h0 e
      subst e1
      rw [e2 env] at q
      exact q [] H G (Step.refl rel.gh) .nil
  refine main.imp fun σ H Q ⟨G, env, rel, p⟩ => ⟨G, env, rel, Post.bind anti_RV p fun r x H1 G1 s1 r1 q1 => ?_⟩
  split at q1
  · rename_i k' fs e
    split at q1
    · rename_i ek
      subst ek
      obtain ⟨p, dx, ci', l, vs, rfl, h1, h2, h3, h4⟩ := post_ins r1 e
      rw [hc] at h2
      obtain rfl := Option.some.inj h2
      refine ⟨p, dx, l, rfl, s1.gh _ _ h1, h3.no m hno, G1, env, rel.step s1, Post.bind anti_RV q1 fun ds vs2 H2 G2 s2 r2 q2 => ?_⟩
      exact ⟨by simpa using hlen, G2, _, s2.gh, .stay (Rep.ins (s2.gg _ _ h1) hc h3 (h4.mono s2.gg)) r2, post_E (post_fl q2)⟩
    · exact False.elim q1
  · exact False.elim q1

/-! ### making -/
theorem run_makeS {CX : CXT} {C f : Addr} {k : Nat} {fd : FuncData} {ps : List Str} {sp : Sp} {E : XK} {pins : List (Addr × Obj)} {σ : St} {H : Hp} {s : Shared} {Q : VK} {us : List Value} {vs : List V} (M : Mk X.K C f) (F : FnOk X.prog X.w X.K X.mg X.base CX k f fd ps sp) (hr : Room (k + 1) X.A) (hb : Binds X.K fd ps [])
    (hx : ∀ (pins : List (Addr × Obj)) (H : Hp) (s : Shared) (e : Value) (s' : Shared), Inv X pins σ H s → CX X.stack H s E e s' → X.xe e s') (I : Inv X pins σ H s) (r : Vals vs us)
    (h : ∀ x dx, H x = none → H dx = none → dx ≠ x → sp (.ref x :: vs) (upd (upd H dx (.own x)) x (.ins C dx [])) (fun v H2 => v = .non ∧ Q (.ref x) H2) E) :
    wpAny (model X.prog X.w) X.A (call (.ref C) us) (EP X pins σ Q) X.xe s := by
  have hq := h (s.heap.objs.size + 1) s.heap.objs.size (I.hok.fresh (Nat.le_succ _)) (I.hok.fresh (Nat.le_refl _)) (Nat.ne_of_lt (Nat.lt_succ_self _))
  have I2 := Inv.made (C := C) I
  have r2 : Vals (V.ref (s.heap.objs.size + 1) :: vs) (Value.ref (s.heap.objs.size + 1) :: us) := .cons rfl r
  have hl : ((Value.ref (s.heap.objs.size + 1) :: us) ++ []).length = ps.length := by
    have e := r2.length
    rw [F.len _ _ _ _ hq] at e
    rw [List.append_nil]
    exact e.symm
  have b := hb _ (Value.ref (s.heap.objs.size + 1) :: us) I2.kIn hl
  rw [List.append_nil] at b
  refine wpAny_call (make_map (f := f) I.kIn M.makes M.init (beq_iff_eq.mp M.fn) (codeAny_mono (F.run _ X.stack _ _ ⟨Value.ref (s.heap.objs.size + 1) :: us, []⟩ (Value.ref (s.heap.objs.size + 1) :: us) _ _ E (hr.make C us [])
    (I2.env0.make C us []) b r2 hq) fun r s' hq' => ?_))
  cases r with
  | error e => exact hx pins _ _ e s' I2 hq'
  | ok fl =>
    cases fl with
    | ret u =>
      obtain ⟨v, H', I3, rv, ev, q3⟩ := I2.after hq'
      subst ev
      exact ⟨rv, ⟨V.ref (s.heap.objs.size + 1), H', I3, rfl, q3⟩⟩
    | next => exact False.elim hq'
    | brk => exact False.elim hq'
    | cont => exact False.elim hq'
/-- C(..) -/
structure MkAt (X : Cx) (T : Tab) (ca xa : Nat → Addr) (W : WX) (nm : Str) (c : Nat) (call : List D → Res Vl) (pm : List Bool) : Prop where
  tk : L2N.Takes X W
  at_ : ∃ k f fd ps, Mk X.K (ca c) f ∧ X.mg nm = some (.ref (ca c)) ∧ FnOk X.prog X.w X.K X.mg X.base (L2N.CX X.prog X.w) k f fd ps (spI (PX X T ca xa) c call pm ps.length) ∧ Room (k + 1) X.A ∧ Binds X.K fd ps [] ∧ pm.length + 1 = ps.length
theorem s_mk {nm : Str} {c : Nat} {call : List D → Res Vl} {pm : List Bool} {es : List Expr} {h : Env → Res (List D)} {p : Pos} (F : MkAt X T ca xa W nm c call pm) (hg : Gl X nm) (hdb : (nm == ("__debug__" : Str)) = false) (ha : SAR X T ca xa cx G0 H0 W pm es h) (hns : es.all noStar = true) (hne : es ≠ []) :
    SE X T ca xa cx G0 H0 W (.Call (.Name nm p) es [] pos) fun env => (h env).bind call := by
  obtain ⟨k, f, fd, ps, M, hm, F1, hr, hb, hl⟩ := F.at_
  cases es with
  | nil => exact absurd rfl hne
  | cons e es =>
    simp only [List.all_cons, Bool.and_eq_true] at hns
    have main : PE X (.Call (.Name nm p) (e :: es) [] pos) (fun σ H Q => tR (PX X T ca xa) cx G0 H0 W (RA (PX X T ca xa) pm) h σ H fun vs H1 => ∀ x dx, H1 x = none → H1 dx = none → dx ≠ x →
        spI (PX X T ca xa) c call pm ps.length (.ref x :: vs) (upd (upd H1 dx (.own x)) x (.ins (ca c) dx [])) (fun v H2 => v = .non ∧ Q (.ref x) H2) (WE W σ)) := by
      refine ⟨fun pins s σ H Q I h => ?_⟩
      refine wpAny_Call_Name_kw (ld_glob I hg hm ?_ hdb)
      refine PySem.W.callWith_K (h₀ := X.base) I.ok.mod.kin M.kp (thn (ha.run pos pins s σ H _ I h) fun us s1 ⟨vs, H1, I1, r, q⟩ => ⟨I1.kIn, ?_⟩) (star_cons hns.1) (star_any hns.2)
      exact run_makeS M F1 hr hb (fun pins H s e s' I hc => L2N.passAt F.tk σ pins H s e s' I hc) I1 r q
    refine main.imp fun σ H Q ⟨G, env, rel, p⟩ => ⟨G, env, rel, Post.bind anti_RV p fun ds vs H1 G1 s1 r1 q1 => fun x dx hx hdx hne => ?_⟩
    exact ⟨hl, G1, H1, ds, x, dx, vs, s1.gh, r1, hx, hdx, hne, rfl, rfl, Post.imp (post_E q1) fun _ v H' G' _ _ _ q e => ⟨rfl, by rw [← e]; exact q⟩⟩
end
end PL

set_option linter.all false
set_option Elab.async false
set_option maxRecDepth 100000
set_option maxHeartbeats 1000000
/-! Soundness, part 7: statements. -/
namespace PL
open PySem PySem.Spec PyProof.Rows L2

def OutP (P : Par) (cx : Hand) (G0 H0 : Hp) (W : WX) (D : Ends) (o : Out) : Prop := match o with
  | .nx e => ∀ σ H G, Rel P cx G0 H0 G H σ e → D.nx σ H
  | .ret r => ∀ v H G, Step G0 H0 G H → RV P H0 G H v r → D.rt v H
  | .ct e => ∀ σ H G, Rel P cx G0 H0 G H σ e → D.ct σ H
  | .err k fs e => ∀ cls d σ H G, Rel P cx G0 H0 G H σ e → ErrRep P G H cls d k fs → W cls d σ H
  | .bad => False
  | .rtd o => ∀ v H G, Step G0 H0 G H → OwOk P G H H0 o v → D.rt v H
def sR (P : Par) (cx : Hand) (G0 H0 : Hp) (W : WX) (f : Env → Out) : TS := fun D σ H => ∃ G env, Rel P cx G0 H0 G H σ env ∧ OutP P cx G0 H0 W D (f env)
theorem Rel.toStep {P : Par} {cx : Hand} {G0 H0 G H : Hp} {σ : St} {env : Env} (r : Rel P cx G0 H0 G H σ env) : Step G0 H0 G H := ⟨r.hh, r.gg, r.gh, r.nw⟩
section
variable {P : Par} {cx : Hand} {G0 H0 G H : Hp} {W : WX} {σ : St} {env : Env}
/-- go on from an expression -/
theorem to_bind {α β : Type} {R : Hp → Hp → Hp → β → α → Prop} {r : Res α} {k : α → Out} {D : Ends} {Q1 : β → Hp → Prop} (rel : Rel P cx G0 H0 G H σ env) (h : OutP P cx G0 H0 W D (r.to env k))
    (hk : ∀ a x H1 G1, Step G H G1 H1 → R H G1 H1 x a → OutP P cx G0 H0 W D (k a) → Q1 x H1) : Post P W σ G H R r Q1 := by
  cases r with
  | ok a => exact fun x H' G' s q => hk a x H' G' s q h
  | err c fs => exact fun cls d H' G' s q => h cls d σ H' G' (rel.step s) q
  | bad => exact h
theorem ErrRep.grow {P : Par} {G H G' : Hp} {cls : Value} {d : Option Addr} {k : Nat} {fs : List D} (h : ErrRep P G H cls d k fs) (s : Same G G') : ErrRep P G' H cls d k fs := by
  obtain ⟨xi, h1, h2, h3⟩ := h
  refine ⟨xi, h1, h2, ?_⟩
  rcases h3 with h3 | ⟨dd, fv, vs, e1, e2, e3, e4⟩
  · exact .inl h3
  · exact .inr ⟨dd, fv, vs, e1, e2, e3.mono s, e4⟩
/-- what slot i holds alone is let stand still -/
theorem Rel.still (rel : Rel P cx G0 H0 G H σ env) {i : Nat} {s0 : Sl} {d : D} {v : V} (L : List Addr) (e : env[i]? = some s0) (e2 : σ[i]? = some (some v)) (hL : ∀ a, a ∈ L ↔ held H s0 σ[i]? a) (r : ∀ G', Same G G' → (∀ a ∈ L, G' a = H a) → Rep P G' v d) :
    ∃ G', Same G G' ∧ Rel P cx G0 H0 G' H σ (env.set i (.val d)) := by
  have th : ∀ a ∈ L, H a ≠ none ∧ G a = none ∧ H0 a = none := fun a ha => (rel.sl i s0 e).there ((hL a).mp ha)
  have sg : Same G (PL.still G H L) := still_same fun a ha => (th a ha).2.1
  have hl : i < env.length := (List.getElem?_eq_some_iff.mp e).1
  refine ⟨PL.still G H L, sg, rel.hk, rel.hh, rel.gg.trans sg, fun b u z => ?_, fun a ha => ?_, by rw [List.length_set]; exact rel.len, fun j s ej => ?_, fun j k s t q ej ek hs ht => ?_⟩
  · by_cases q : b ∈ L
    · rw [still_in q] at z; exact z
    · rw [still_out q] at z; exact rel.gh _ _ z
  · rw [still_out fun z => ha (th a z).2.2]
    exact rel.nw a ha
  · by_cases ji : i = j
    · subst ji
      rw [List.getElem?_set_self hl] at ej
      cases ej
      exact ⟨_, e2, r _ sg fun a ha => still_in ha⟩
    · rw [List.getElem?_set_ne ji] at ej
      have hq := rel.sl j s ej
      have ne : ∀ q, held H s σ[j]? q → q ∉ L := fun q hq z => ji (rel.dis i j _ _ q e ej ((hL q).mp z) hq)
      cases s with
      | no => trivial
      | val d => obtain ⟨v, e3, r3⟩ := hq; exact ⟨v, e3, r3.mono sg⟩
      | own es => obtain ⟨q, ws, e3, k1, k2, k3, r3⟩ := hq; exact ⟨q, ws, e3, k1, by rw [still_out (ne q e3)]; exact k2, k3, r3.mono sg⟩
      | pk es => obtain ⟨q, ws, e3, k1, r3⟩ := hq; exact ⟨q, ws, e3, k1, r3.mono sg⟩
      | exc k fs => obtain ⟨a, cls, d, e3, e4, r3⟩ := hq; exact ⟨a, cls, d, e3, e4, r3.grow sg⟩
      | obj c es => obtain ⟨x, dx, fs, ws, ci, e3, k1, k2, k3, k4, k5, r3, ho⟩ := hq; exact ⟨x, dx, fs, ws, ci, e3, k1, by rw [still_out (ne x e3)]; exact k2, k3, k4, k5, r3.mono sg, ho⟩
      | dp w =>
        obtain ⟨x, e3, k⟩ := hq
        exact ⟨x, e3, (k.r.keep sg fun _ _ _ z => z).1, k.nd, fun a ha => by rw [still_out (ne a ⟨x, e3, ha⟩)]; exact k.g a ha, k.h0⟩
  · have go : ∀ {j : Nat} {s : Sl}, (env.set i (.val d))[j]? = some s → held H s σ[j]? q → env[j]? = some s := fun {j s} ej hs => by
      by_cases ji : i = j
      · subst ji
        rw [List.getElem?_set_self hl] at ej
        cases ej
        exact False.elim hs
      · rw [List.getElem?_set_ne ji] at ej
        exact ej
    exact rel.dis j k s t q (go ej hs) (go ek ht) hs ht
theorem Rel.frz1 (rel : Rel P cx G0 H0 G H σ env) (i : Nat) : ∃ G', Same G G' ∧ Rel P cx G0 H0 G' H σ (frz1 env i) := by
  unfold PL.frz1
  split
  · rename_i ds e
    obtain ⟨p, vs, e2, h1, h2, h3, r⟩ := rel.sl i _ e
    refine rel.still [p] e e2 (fun a => ?_) fun G' sg k => .lst ((k p List.mem_cons_self).trans h1) (r.mono sg)
    rw [List.mem_singleton]
    constructor
    · rintro rfl; exact e2
    · intro z
      have z : σ[i]? = some (some (.ref a)) := z
      rw [e2] at z
      cases z
      rfl
  · rename_i o e
    obtain ⟨v, e2, k⟩ := rel.sl i _ e
    refine rel.still (foot H o v) e e2 (fun a => ?_) fun G' sg z => k.r.rep sg z
    constructor
    · exact fun z => ⟨v, e2, z⟩
    · rintro ⟨v', e', z⟩
      rw [e2] at e'
      cases e'
      exact z
  · exact ⟨G, Same.refl _, rel⟩
theorem Rel.frz (fr : List Nat) : ∀ {G : Hp} {env : Env}, Rel P cx G0 H0 G H σ env → ∃ G', Same G G' ∧ Rel P cx G0 H0 G' H σ (frz fr env) := by
  induction fr with
  | nil => exact fun {G env} rel => ⟨G, Same.refl _, rel⟩
  | cons i fr ih =>
    intro G env rel
    obtain ⟨G1, s1, r1⟩ := rel.frz1 i
    obtain ⟨G2, s2, r2⟩ := ih r1
    exact ⟨G2, s1.trans s2, r2⟩
/-- a slot takes a value -/
theorem Rel.put {G1 H1 : Hp} {i : Nat} {v : V} {x : Vl} (rel : Rel P cx G0 H0 G H σ env) (s : Step G H G1 H1) (r : RV P H G1 H1 v x) : Rel P cx G0 H0 G1 H1 (σ.set i (some v)) (env.set i x.sl) := by
  have rel1 := rel.step s
  have old : ∀ {j : Nat} {t : Sl}, i ≠ j → (env.set i x.sl)[j]? = some t → env[j]? = some t ∧ (σ.set i (some v))[j]? = σ[j]? := fun {j t} n e => by
    rw [List.getElem?_set_ne n] at e
    exact ⟨e, List.getElem?_set_ne n⟩
  have nw : ∀ {t : Sl}, (env.set i x.sl)[i]? = some t → t = x.sl ∧ (σ.set i (some v))[i]? = some (some v) := fun {t} e => by
    by_cases hl : i < env.length
    · rw [List.getElem?_set_self hl] at e
      cases e
      exact ⟨rfl, List.getElem?_set_self (by rw [rel.len]; exact hl)⟩
    · rw [List.getElem?_eq_none (by rw [List.length_set]; omega)] at e
      cases e
  refine ⟨rel1.hk, rel1.hh, rel1.gg, rel1.gh, rel1.nw, by rw [List.length_set, List.length_set]; exact rel.len, fun j t e => ?_, fun j k t u p ej ek hj hk => ?_⟩
  · by_cases q : i = j
    · subst q
      obtain ⟨e1, e2⟩ := nw e
      subst e1
      rw [e2]
      cases x with
      | val d => exact ⟨v, rfl, r⟩
      | own ds =>
        obtain ⟨p, vs, e3, h1, h2, h3, r3⟩ := r
        subst e3
        exact ⟨p, vs, rfl, h1, h2, rel.hh.free h3, r3⟩
    · obtain ⟨e1, e2⟩ := old q e
      rw [e2]
      exact rel1.sl j t e1
  · -- what is held by the new slot is new
    have fresh : ∀ {t : Sl}, (env.set i x.sl)[i]? = some t → held H1 t (σ.set i (some v))[i]? p → H p = none := fun {t} e h => by
      obtain ⟨e1, e2⟩ := nw e
      subst e1
      rw [e2] at h
      cases x with
      | val d => exact False.elim h
      | own ds =>
        obtain ⟨p', vs, e3, h1, h2, h3, r3⟩ := r
        subst e3
        have h : some (some (V.ref p')) = some (some (V.ref p)) := h
        cases h
        exact h3
    have there : ∀ {j : Nat} {t : Sl}, env[j]? = some t → held H1 t σ[j]? p → H p ≠ none := fun {j t} e h => ((rel.sl j t e).there ((held_step (rel.sl j t e) s).mp h)).1
    by_cases q : i = j
    · subst q
      by_cases q2 : i = k
      · exact q2
      · obtain ⟨e1, e2⟩ := old q2 ek
        rw [e2] at hk
        exact absurd (fresh ej hj) (there e1 hk)
    · obtain ⟨e1, e2⟩ := old q ej
      rw [e2] at hj
      by_cases q2 : i = k
      · subst q2
        exact absurd (fresh ek hk) (there e1 hj)
      · obtain ⟨e3, e4⟩ := old q2 ek
        rw [e4] at hk
        exact rel1.dis j k t u p e1 e3 hj hk
theorem Rel.putD {i : Nat} {v : V} {d : D} (rel : Rel P cx G0 H0 G H σ env) (r : Rep P G v d) : Rel P cx G0 H0 G H (σ.set i (some v)) (env.set i (.val d)) :=
  rel.put (x := .val d) (Step.refl rel.gh) r
/-- our own list is written -/
theorem Rel.write {i : Nat} {p : Addr} {vs ws : List V} {ds es : List D} (rel : Rel P cx G0 H0 G H σ env) (e : env[i]? = some (.own ds)) (e2 : σ[i]? = some (some (.ref p))) (hv : H p = some (.lst vs)) (r : Reps P G ws es) :
    Rel P cx G0 H0 G (upd H p (.lst ws)) σ (env.set i (.own es)) := by
  obtain ⟨p', vs', e3, h1, h2, h3, _⟩ := rel.sl i _ e
  rw [e2] at e3
  cases e3
  have keep : ∀ {b : Addr}, b ≠ p → upd H p (.lst ws) b = H b := fun n => upd_ne n
  refine ⟨rel.hk, fun b u z => ?_, rel.gg, fun b u z => ?_, rel.nw, by rw [List.length_set]; exact rel.len, fun j s ej => ?_, fun j k s t q ej ek hs ht => ?_⟩
  · rw [keep (ne_of_none z h3)]; exact rel.hh _ _ z
  · rw [keep (ne_of_none z h2)]; exact rel.gh _ _ z
  · have hl : i < env.length := (List.getElem?_eq_some_iff.mp e).1
    by_cases ji : i = j
    · subst ji
      rw [List.getElem?_set_self hl] at ej
      cases ej
      exact ⟨p, ws, e2, upd_same, h2, h3, r⟩
    · rw [List.getElem?_set_ne ji] at ej
      have hq := rel.sl j s ej
      have ne : ∀ q, held H s σ[j]? q → q ≠ p := fun q hq z => ji (rel.dis i j _ _ p e ej e2 (z ▸ hq))
      cases s with
      | dp w =>
        obtain ⟨x, e3, k⟩ := hq
        obtain ⟨q1, q2⟩ := k.r.keep (H' := upd H p (.lst ws)) (Same.refl _) fun a ha u z => by rw [keep (ne a ⟨x, e3, ha⟩)]; exact z
        exact ⟨x, e3, q1, by rw [q2]; exact k.nd, by rw [q2]; exact k.g, by rw [q2]; exact k.h0⟩
      | no => trivial
      | val d => exact hq
      | own es' => obtain ⟨q, ws', e3, k1, k2⟩ := hq; exact ⟨q, ws', e3, by rw [keep (ne q e3)]; exact k1, k2⟩
      | pk es' => exact hq
      | exc k fs =>
        obtain ⟨a, cls, d, e3, e4, xi, x1, x2, x3⟩ := hq
        refine ⟨a, cls, d, e3, e4, xi, x1, x2, ?_⟩
        rcases x3 with x3 | ⟨dd, fv, vs', y1, y2, y3⟩
        · exact .inl x3
        · refine .inr ⟨dd, fv, vs', y1, ?_, y3⟩
          rw [keep (fun z => by rw [z, hv] at y2; cases y2)]
          exact y2
      | obj c es' => obtain ⟨x, dx, fs, ws', ci, e3, k1, k2⟩ := hq; exact ⟨x, dx, fs, ws', ci, e3, by rw [keep (ne x e3)]; exact k1, k2⟩
  · have go : ∀ {j : Nat} {s : Sl}, (env.set i (.own es))[j]? = some s → held (upd H p (.lst ws)) s σ[j]? q → ∃ s', env[j]? = some s' ∧ held H s' σ[j]? q := fun {j s} ej hs => by
      by_cases ji : i = j
      · subst ji
        have hl : i < env.length := (List.getElem?_eq_some_iff.mp e).1
        rw [List.getElem?_set_self hl] at ej
        cases ej
        exact ⟨_, e, hs⟩
      · rw [List.getElem?_set_ne ji] at ej
        refine ⟨s, ej, ?_⟩
        cases s with
        | dp w =>
          obtain ⟨x, e3, k⟩ := rel.sl j _ ej
          obtain ⟨x', e3', m⟩ := hs
          rw [e3] at e3'
          cases e3'
          have ne : ∀ q, q ∈ foot H w x → q ≠ p := fun q hq z => ji (rel.dis i j _ _ p e ej e2 (z ▸ ⟨x, e3, hq⟩))
          obtain ⟨q1, q2⟩ := k.r.keep (H' := upd H p (.lst ws)) (Same.refl _) fun a ha u z => by rw [keep (ne a ha)]; exact z
          rw [q2] at m
          exact ⟨x, e3, m⟩
        | _ => exact hs
    obtain ⟨s', ej', hs'⟩ := go ej hs
    obtain ⟨t', ek', ht'⟩ := go ek ht
    exact rel.dis j k s' t' q ej' ek' hs' ht'
end
end PL

set_option linter.all false
set_option Elab.async false
set_option maxRecDepth 100000
set_option maxHeartbeats 1000000
/-! Soundness, part 8: statements, one by one. -/
namespace PL
open PySem PySem.Spec PyProof.Rows L2
section
variable {P : Par} {cx : Hand} {G0 H0 G H : Hp} {W : WX} {σ : St} {env : Env}
theorem Rel.writeG {i : Nat} {p : Addr} {s0 s1 : Sl} {o o' : HO} (rel : Rel P cx G0 H0 G H σ env) (e : env[i]? = some s0) (hh : held H s0 σ[i]? p) (hv : H p = some o) (hx : ∀ fs, o ≠ .xd fs) (h3 : H0 p = none) (h2 : G p = none)
    (r : SlR P cx H0 G (upd H p o') σ[i]? s1) (hs1 : ∀ q, held (upd H p o') s1 σ[i]? q → held H s0 σ[i]? q) : Rel P cx G0 H0 G (upd H p o') σ (env.set i s1) := by
  have keep : ∀ {b : Addr}, b ≠ p → upd H p o' b = H b := fun n => upd_ne n
  have hl : i < env.length := (List.getElem?_eq_some_iff.mp e).1
  refine ⟨rel.hk, fun b u z => ?_, rel.gg, fun b u z => ?_, rel.nw, by rw [List.length_set]; exact rel.len, fun j s ej => ?_, fun j k s t q ej ek hs ht => ?_⟩
  · rw [keep (ne_of_none z h3)]; exact rel.hh _ _ z
  · rw [keep (ne_of_none z h2)]; exact rel.gh _ _ z
  · by_cases ji : i = j
    · subst ji
      rw [List.getElem?_set_self hl] at ej
      cases ej
      exact r
    · rw [List.getElem?_set_ne ji] at ej
      have hq := rel.sl j s ej
      have ne : ∀ q, held H s σ[j]? q → q ≠ p := fun q hq z => ji (rel.dis i j _ _ p e ej hh (z ▸ hq))
      cases s with
      | no => trivial
      | val d => exact hq
      | own es' => obtain ⟨q, ws', e3, k1, k2⟩ := hq; exact ⟨q, ws', e3, by rw [keep (ne q e3)]; exact k1, k2⟩
      | pk es' => exact hq
      | exc k fs =>
        obtain ⟨a, cls, d, e3, e4, xi, x1, x2, x3⟩ := hq
        refine ⟨a, cls, d, e3, e4, xi, x1, x2, ?_⟩
        rcases x3 with x3 | ⟨dd, fv, vs', y1, y2, y3⟩
        · exact .inl x3
        · refine .inr ⟨dd, fv, vs', y1, ?_, y3⟩
          rw [keep (fun z => by rw [z, hv] at y2; exact hx _ (Option.some.inj y2))]
          exact y2
      | obj c es' => obtain ⟨x, dx, fs, ws', ci, e3, k1, k2⟩ := hq; exact ⟨x, dx, fs, ws', ci, e3, by rw [keep (ne x e3)]; exact k1, k2⟩
      | dp w =>
        obtain ⟨x, e3, k⟩ := hq
        obtain ⟨q1, q2⟩ := k.r.keep (H' := upd H p o') (Same.refl _) fun a ha u z => by rw [keep (ne a ⟨x, e3, ha⟩)]; exact z
        exact ⟨x, e3, q1, by rw [q2]; exact k.nd, by rw [q2]; exact k.g, by rw [q2]; exact k.h0⟩
  · have go : ∀ {j : Nat} {s : Sl}, (env.set i s1)[j]? = some s → held (upd H p o') s σ[j]? q → ∃ s', env[j]? = some s' ∧ held H s' σ[j]? q := fun {j s} ej hs => by
      by_cases ji : i = j
      · subst ji
        rw [List.getElem?_set_self hl] at ej
        cases ej
        exact ⟨_, e, hs1 _ hs⟩
      · rw [List.getElem?_set_ne ji] at ej
        refine ⟨s, ej, ?_⟩
        cases s with
        | dp w =>
          obtain ⟨x, e3, k⟩ := rel.sl j _ ej
          obtain ⟨x', e3', m⟩ := hs
          rw [e3] at e3'
          cases e3'
          have ne : ∀ q, q ∈ foot H w x → q ≠ p := fun q hq z => ji (rel.dis i j _ _ p e ej hh (z ▸ ⟨x, e3, hq⟩))
          obtain ⟨q1, q2⟩ := k.r.keep (H' := upd H p o') (Same.refl _) fun a ha u z => by rw [keep (ne a ha)]; exact z
          rw [q2] at m
          exact ⟨x, e3, m⟩
        | _ => exact hs
    obtain ⟨s', ej', hs'⟩ := go ej hs
    obtain ⟨t', ek', ht'⟩ := go ek ht
    exact rel.dis j k s' t' q ej' ek' hs' ht'
end
/-- names, as targets -/
def nameOf : Expr → Option Str
  | .Name x _ => some x
  | _ => none
theorem nameOf_some {e : Expr} {x : Str} (h : nameOf e = some x) : ∃ p, e = .Name x p := by
  cases e <;> first | (simp [nameOf] at h; done) | skip
  rename_i y p
  have h : some y = some x := h
  cases h
  exact ⟨p, rfl⟩
def namesB (N : List Str) (sc : Str → Bool) : List Expr → List Nat → Bool
  | [], [] => true
  | e :: es, i :: is => (match nameOf e with
    | some x => decide (N[i]? = some x) && (sc x && namesB N sc es is)
    | none => false)
  | _, _ => false
def noComp : Expr → Bool
  | .ListComp _ _ _ _ => false
  | .SetComp _ _ _ _ => false
  | .DictComp _ _ _ _ _ => false
  | _ => true
def noTup : Expr → Bool
  | .Tuple _ _ _ => false
  | _ => true
theorem sw_no {e : Expr} {t : Option Expr} {l : Nat} {env : PySem.Env} (h : noComp e = true) : swapsWith e t l env = pure false := by
  cases e <;> first | rfl | (simp [noComp] at h)
theorem sws_no {tg e : Expr} {l : Nat} {env : PySem.Env} (h : (match tg with | .Name _ _ => false | _ => true) = true) : swapsWithSole [tg] e l env = pure false := by
  cases tg <;> first | (simp at h; done) | (cases e <;> rfl)
theorem swst_no {tg e : Expr} {env : PySem.Env} (h : noTup e = true) : swappedStores [tg] e env = pure none := by
  cases e <;> first | (simp [noTup] at h; done) | (cases tg <;> rfl)

section
variable {X : Cx} {T : Tab} {ca xa : Nat → Addr} {cx : Hand} {G0 H0 : Hp} {W : WX} {a b c d e o : Expr} {fa fb fc fd : Env → Res D} {f g : Env → Res Vl} {pos : Pos} {fr : List Nat}
abbrev SS (X : Cx) (T : Tab) (ca xa : Nat → Addr) (cx : Hand) (G0 H0 : Hp) (W : WX) (st : Stmt) (f : Env → Out) : Prop := PS X st (sR (PX X T ca xa) cx G0 H0 W f)
abbrev SSs (X : Cx) (T : Tab) (ca xa : Nat → Addr) (cx : Hand) (G0 H0 : Hp) (W : WX) (st : List Stmt) (f : Env → Out) : Prop := PSs X st (sR (PX X T ca xa) cx G0 H0 W f)
theorem ss_nil : SSs X T ca xa cx G0 H0 W [] fun env => .nx env := pss_nil.imp fun D σ H ⟨G, env, rel, p⟩ => p σ H G rel
theorem ss_cons {st : Stmt} {rest : List Stmt} {f g : Env → Out} (h1 : SS X T ca xa cx G0 H0 W st f) (h2 : SSs X T ca xa cx G0 H0 W rest g) : SSs X T ca xa cx G0 H0 W (st :: rest) fun env => (f env).seq g :=
  (pss_cons h1 h2).imp fun D σ H ⟨G, env, rel, p⟩ => by
    refine ⟨G, env, rel, ?_⟩
    have p : OutP _ cx G0 H0 W D ((f env).seq g) := p
    cases q : f env with
    | nx e => rw [q] at p; exact fun σ' H' G' r => ⟨G', e, r, p⟩
    | ret r => rw [q] at p; exact p
    | ct e => rw [q] at p; exact p
    | err k fs e => rw [q] at p; exact p
    | bad => rw [q] at p; exact p
    | rtd o => rw [q] at p; exact p
theorem ss_pass : SS X T ca xa cx G0 H0 W (.Pass pos) fun env => .nx env := ps_pass.imp fun D σ H ⟨G, env, rel, p⟩ => p σ H G rel
theorem ss_cont : SS X T ca xa cx G0 H0 W (.Continue pos) fun env => .ct env := ps_continue.imp fun D σ H ⟨G, env, rel, p⟩ => p σ H G rel
theorem ss_doc {x : Str} {j p1 p2} : SS X T ca xa cx G0 H0 W (.Expr (.Constant (.str x) j p1) p2) fun env => .nx env := ps_doc.imp fun D σ H ⟨G, env, rel, p⟩ => p σ H G rel
theorem ss_ret (he : SE X T ca xa cx G0 H0 W e f) : SS X T ca xa cx G0 H0 W (.Return (some e) pos) fun env => (f (frz fr env)).to (frz fr env) fun x => .ret x :=
  (ps_ret he).imp fun D σ H ⟨G, env, rel, p⟩ => by
    obtain ⟨G', s, rel'⟩ := rel.frz fr
    exact ⟨G', _, rel', to_bind rel' p fun a v H1 G1 st r q => q v H1 G1 (rel'.step st).toStep (anti_RV _ _ _ _ _ _ rel'.hh r)⟩
theorem ss_retn : SS X T ca xa cx G0 H0 W (.Return none pos) fun _ => .ret (.val .non) := ps_retN.imp fun D σ H ⟨G, env, rel, p⟩ => p .non H G rel.toStep .non
theorem ss_ex (he : SE X T ca xa cx G0 H0 W e f) (hs : noComp e = true) : SS X T ca xa cx G0 H0 W (.Expr e pos) fun env => (f (frz fr env)).to (frz fr env) fun _ => .nx (frz fr env) :=
  (ps_expr he (sw_no hs)).imp fun D σ H ⟨G, env, rel, p⟩ => by
    obtain ⟨G', s, rel'⟩ := rel.frz fr
    exact ⟨G', _, rel', to_bind rel' p fun a v H1 G1 st r q => q σ H1 G1 (rel'.step st)⟩
theorem ss_ite {t : Expr} {as bs : List Stmt} {ft : Env → Res Bool} {fa fb : Env → Out} (ht : ST X T ca xa cx G0 H0 W t ft) (ha : SSs X T ca xa cx G0 H0 W as fa) (hb : SSs X T ca xa cx G0 H0 W bs fb) :
    SS X T ca xa cx G0 H0 W (.If t as bs pos) fun env => (ft (frz fr env)).to (frz fr env) fun k => if k = true then fa (frz fr env) else fb (frz fr env) :=
  (ps_if ht ha hb).imp fun D σ H ⟨G, env, rel, p⟩ => by
    obtain ⟨G', s, rel'⟩ := rel.frz fr
    refine ⟨G', _, rel', to_bind rel' p fun k b H1 G1 st r q => ?_⟩
    have r : b = k := r
    subst r
    cases b with
    | true => rw [if_pos rfl] at q ⊢; exact ⟨G1, _, rel'.step st, q⟩
    | false => rw [if_neg Bool.false_ne_true] at q ⊢; exact ⟨G1, _, rel'.step st, q⟩
theorem ss_asg {i : Nat} {x : Str} {p1 : Pos} (hN : X.N.Nodup) (hi : X.N[i]? = some x) (hx : Loc X.env.scope x) (hf : X.fn x = true ∨ X.env.scope.names.lookup x = some .local) (he : SE X T ca xa cx G0 H0 W e f) (hs : swapsWith e (some (.Name x p1)) pos.line X.env = pure false) :
    SS X T ca xa cx G0 H0 W (.Assign [.Name x p1] e pos) fun env => (f (frz fr env)).to (frz fr env) fun x => .nx ((frz fr env).set i x.sl) :=
  (ps_set hN hi hx he hs hf).imp fun D σ H ⟨G, env, rel, p⟩ => by
    obtain ⟨G', s, rel'⟩ := rel.frz fr
    exact ⟨G', _, rel', to_bind rel' p fun a v H1 G1 st r q => q _ _ _ (rel'.put st r)⟩

/-! ### several names -/
def gNames (is : List Nat) : TGs := fun vs σ H Q => vs.length = is.length ∧ Q ((is.zip vs).foldl (fun σ p => σ.set p.1 (some p.2)) σ) H
/-- names that may be stored -/
def StB (X : Cx) (stb : Str → Bool) : Prop := ∀ x, stb x = true → Loc X.env.scope x ∧ (X.fn x = true ∨ X.env.scope.names.lookup x = some .local)
theorem pgs_names {stb : Str → Bool} (hst : StB X stb) (hN : X.N.Nodup) : ∀ {es : List Expr} {is : List Nat}, namesB X.N stb es is = true → PGs X es (gNames is)
  | [], [], _ => ⟨fun pins s σ H vs us Q I r h => by
      obtain ⟨h1, h2⟩ := h
      have e : vs = [] := List.length_eq_zero_iff.mp h1
      subst e
      exact pgs_nil.run pins s σ H [] us Q I r ⟨rfl, h2⟩⟩
  | e :: es, i :: is, h => by
    simp only [namesB] at h
    split at h
    · rename_i x ex
      obtain ⟨p, rfl⟩ := nameOf_some ex
      simp only [Bool.and_eq_true, decide_eq_true_eq] at h
      obtain ⟨h1, h2, h3⟩ := h
      have q := pgs_cons (pg_name (pos := p) hN h1 (hst x h2).1 (hst x h2).2) (pgs_names hst hN h3)
      refine ⟨fun pins s σ H vs us Q I r hh => q.run pins s σ H vs us Q I r ?_⟩
      obtain ⟨k1, k2⟩ := hh
      cases vs with
      | nil => simp at k1
      | cons v vs => exact ⟨v, vs, rfl, by simpa using k1, k2⟩
    · cases h
  | [], _ :: _, h => by simp [namesB] at h
  | e :: es, [], h => by simp [namesB] at h
theorem names_len {N : List Str} {sc : Str → Bool} {env : PySem.Env} : ∀ {es : List Expr} {is : List Nat}, namesB N sc es is = true → (assignEach es env).length = is.length ∧ (assignEach es env).findIdx? (·.1) = none
  | [], [], _ => ⟨rfl, rfl⟩
  | e :: es, i :: is, h => by
    simp only [namesB] at h
    split at h
    · rename_i x ex
      obtain ⟨p, rfl⟩ := nameOf_some ex
      simp only [Bool.and_eq_true, decide_eq_true_eq] at h
      obtain ⟨h1, h2, h3⟩ := h
      obtain ⟨q1, q2⟩ := names_len (env := env) h3
      have e1 : assignEach (.Name x p :: es) env = (false, assign (.Name x p) env) :: assignEach es env := rfl
      rw [e1]
      exact ⟨congrArg (· + 1) q1, by rw [List.findIdx?_cons, q2]; rfl⟩
    · cases h
  | [], _ :: _, h => by simp [namesB] at h
  | e :: es, [], h => by simp [namesB] at h
theorem put_all {P : Par} {G H : Hp} : ∀ (is : List Nat) {vs : List V} {ds : List D} {σ : St} {env : Env}, Rel P cx G0 H0 G H σ env → Reps P G vs ds →
    Rel P cx G0 H0 G H ((is.zip vs).foldl (fun σ p => σ.set p.1 (some p.2)) σ) ((is.zip ds).foldl (fun e p => e.set p.1 (.val p.2)) env)
  | [], _, _, _, _, rel, _ => rel
  | i :: is, _, _, _, _, rel, .nil => rel
  | i :: is, _, _, _, _, rel, .cons h r => put_all is (rel.putD h) r
/-- a target's reading -/
def gT (K : PySem.W.Frag) : Tg → TG
  | .n i => gName i
  | .t is => gTup K is.length (gNames is)
def tgIx : Tg → List Nat
  | .n i => [i]
  | .t is => is
theorem wipe_set {i : Nat} {z : Option V} : ∀ {vs : List Nat} {σ : St}, i ∈ vs → wipe (σ.set i z) vs = wipe σ vs
  | [], _, h => by simp at h
  | v :: vs, σ, h => by
    unfold wipe
    by_cases e : v = i
    · subst e
      by_cases q : v ∈ vs
      · rw [wipe_set q]
      · have : ∀ (vs : List Nat) (σ : St), v ∉ vs → wipe (σ.set v z) vs = (wipe σ vs).set v z := by
          intro vs
          induction vs with
          | nil => intro σ _; rfl
          | cons u us ih =>
            intro σ hn
            simp only [List.mem_cons, not_or] at hn
            unfold wipe
            rw [ih σ hn.2, List.set_comm _ _ hn.1]
        rw [this vs σ q, List.set_set]
    · rw [wipe_set (by simpa [Ne.symm e] using h)]
theorem wipe_sets : ∀ (is : List Nat) {vs : List V} {σ : St} {own : List Nat}, (∀ i ∈ is, i ∈ own) → wipe ((is.zip vs).foldl (fun σ p => σ.set p.1 (some p.2)) σ) own = wipe σ own
  | [], _, _, _, _ => rfl
  | i :: is, [], _, _, _ => rfl
  | i :: is, v :: vs, σ, own, h => by
    rw [List.zip_cons_cons, List.foldl_cons, wipe_sets is fun j hj => h j (List.mem_cons_of_mem _ hj)]
    exact wipe_set (h i List.mem_cons_self)
theorem setT_ok {P : Par} {G H : Hp} {σ : St} {env e1 : Env} {tg : Tg} {d : D} {v : V} {Q : St → Hp → Prop} (rel : Rel P cx G0 H0 G H σ env) (r : Rep P G v d) (e : setT tg d env = some e1) (hq : ∀ σ', (∀ own, (∀ i ∈ tgIx tg, i ∈ own) → wipe σ' own = wipe σ own) → Rel P cx G0 H0 G H σ' e1 → Q σ' H) : gT P.K tg v σ H Q := by
  cases tg with
  | n i =>
    have e : some (env.set i (.val d)) = some e1 := e
    cases e
    exact hq _ (fun own h => wipe_set (h i List.mem_cons_self)) (rel.putD r)
  | t is =>
    cases r with
    | @tup a vs ds h r =>
      have e : (if ds.length = is.length then some ((is.zip ds).foldl (fun e p => e.set p.1 (.val p.2)) env) else none) = some e1 := e
      split at e
      · rename_i hl
        cases e
        exact ⟨a, vs, rfl, SqT.of (rel.gh _ _ h), by rw [r.length]; exact hl, by rw [r.length]; exact hl, hq _ (fun own h => wipe_sets is h) (put_all is rel r)⟩
      · cases e
    | _ => cases e
/-- what target the text has -/
def tgB (N : List Str) (sc : Str → Bool) (e : Expr) : Tg → Bool
  | .n i => (match nameOf e with
    | some x => decide (N[i]? = some x) && sc x
    | none => false)
  | .t is => (match e with
    | .Tuple es _ _ => namesB N sc es is
    | _ => false)
theorem pg_tg {tg : Tg} {stb : Str → Bool} (hst : StB X stb) (hc : X.calm = true) (hN : X.N.Nodup) (h : tgB X.N stb e tg = true) : PG X e (gT X.K tg) := by
  cases tg with
  | n i =>
    simp only [tgB] at h
    split at h
    · rename_i x ex
      obtain ⟨p, rfl⟩ := nameOf_some ex
      simp only [Bool.and_eq_true, decide_eq_true_eq] at h
      exact pg_name hN h.1 (hst x h.2).1 (hst x h.2).2
    · cases h
  | t is =>
    simp only [tgB] at h
    split at h
    · obtain ⟨h1, h2⟩ := names_len (env := X.env) h
      exact pg_tup hc (pgs_names hst hN h) h1 h2
    · cases h
theorem ss_asgt {es : List Expr} {is : List Nat} {k : Nat} {tp : Pos} {stb : Str → Bool} (hst : StB X stb) (hc : X.calm = true) (hN : X.N.Nodup) (h : namesB X.N stb es is = true) (he : SE X T ca xa cx G0 H0 W e f) (hs : noTup e = true) :
    SS X T ca xa cx G0 H0 W (.Assign [.Tuple es k tp] e pos) fun env => (f (frz fr env)).to (frz fr env) fun x => (match setT (.t is) x.d (frz fr env) with
    | some e1 => .nx e1
    | none => .bad) :=
  (ps_asg he (pg_tg (tg := .t is) (e := .Tuple es k tp) hst hc hN h) (sws_no rfl) (swst_no hs)).imp fun D σ H ⟨G, env, rel, p⟩ => by
    obtain ⟨G', s, rel'⟩ := rel.frz fr
    refine ⟨G', _, rel', to_bind rel' p fun a v H1 G1 st r q => ?_⟩
    split at q
    · rename_i e1 ee
      cases a with
      | own ds => cases ee
      | val d => exact setT_ok (P := PX X T ca xa) (rel'.step st) r ee fun σ' _ r' => q _ _ _ r'
    · exact False.elim q
end
end PL

set_option linter.all false
set_option Elab.async false
set_option maxRecDepth 100000
set_option maxHeartbeats 1000000
/-! Soundness, part 9: statements that write; while. -/
namespace PL
open PySem PySem.Spec PyProof.Rows L2
theorem sub_assign {o i : Expr} {pos : Pos} {env : PySem.Env} (h : noSlice i = true) : ∀ v, assign (.Subscript o i pos) env v = (do
      let ov ← holding [v] (eval o env)
      let iv ← holding [v, ov] (eval i env)
      standAt pos
      holding [v, ov, iv] (setItem ov iv v)
      release [v, ov, iv] []) := fun v => by
  cases i <;> first | rfl | (simp [noSlice] at h)
theorem aug_store {i : Expr} (h : noSlice i = true) : ∀ ov iv new, augStore i ov iv new = (do holding [new, ov, iv] (setItem ov iv new); release [new, ov, iv] []; pure .next) := fun ov iv new => by
  cases i <;> first | rfl | (simp [noSlice] at h)
section
variable {X : Cx} {T : Tab} {ca xa : Nat → Addr} {cx : Hand} {G0 H0 : Hp} {W : WX} {a b c d e o : Expr} {fa fb fc fd : Env → Res D} {f g : Env → Res Vl} {pos : Pos} {fr : List Nat}
theorem ixNat_ixN (n : Nat) (i : Int) : ixNat n i = ixN n i := rfl
def augOp : O2 → Operator
  | .add => .Add
  | _ => .Sub
def augF : O2 → Int → Int → Int
  | .add, a, b => a + b
  | _, a, b => a - b
theorem pip_aug (o : O2) : PIp X (augOp o) (ipI (augF o)) := by
  cases o <;> first | exact ip_add | exact ip_sub
theorem ss_aug {i : Nat} {x : Str} {p1 : Pos} {op : O2} (hN : X.N.Nodup) (hi : X.N[i]? = some x) (hx : Loc X.env.scope x) (hf : X.fn x = true ∨ X.env.scope.names.lookup x = some .local) (he : SE X T ca xa cx G0 H0 W e f) :
    SS X T ca xa cx G0 H0 W (.AugAssign (.Name x p1) (augOp op) e pos) fun env => (match env[i]? with
    | some (.val x) => (f env).to env fun y => (match x, y with
      | .int a, .val (.int b) => (match op with
        | .add => .nx (env.set i (.val (.int (a + b))))
        | .sub => .nx (env.set i (.val (.int (a - b))))
        | _ => .bad)
      | _, _ => .bad)
    | _ => .bad) :=
  (ps_aug hN hi hx he (pip_aug op) hf).imp fun D σ H ⟨G, env, rel, p⟩ => by
    dsimp only at p
    split at p
    · rename_i d ed
      obtain ⟨v, ev, rv⟩ := rel.sl i _ ed
      refine ⟨v, ev, G, env, rel, to_bind rel p fun r y H1 G1 st ry q => ?_⟩
      split at q
      · rename_i _ _ j k
        cases rv with
        | int j =>
          cases (show Rep _ G1 y (.int k) from ry) with
          | int k =>
            refine ⟨j, k, rfl, rfl, ?_⟩
            cases op with
            | add => exact q _ _ _ ((rel.step st).putD (.int _))
            | sub => exact q _ _ _ ((rel.step st).putD (.int _))
            | _ => exact False.elim q
      · exact False.elim q
    · exact False.elim p
theorem own_at {P : Par} {G H : Hp} {σ : St} {env : Env} {i : Nat} {ds : List D} (rel : Rel P cx G0 H0 G H σ env) (e : env[i]? = some (.own ds)) : ∃ p vs, σ[i]? = some (some (.ref p)) ∧ H p = some (.lst vs) ∧ Reps P G vs ds := by
  obtain ⟨p, vs, e3, h1, h2, h3, r⟩ := rel.sl i _ e
  exact ⟨p, vs, e3, h1, r⟩
theorem ss_app {i : Nat} {x : Str} {p1 apos p2 : Pos} (hi : X.N[i]? = some x) (hx : Vis X.env.scope x) (hd : (x == ("__debug__" : Str)) = false) (hcd : (x == ("__classdict__" : Str)) = false) (he : SE X T ca xa cx G0 H0 W e f) (hn : noStar e = true) (hl : (apos.endLine == p2.line) = true) :
    SS X T ca xa cx G0 H0 W (.Expr (.Call (.Attribute (.Name x p1) "append" apos) [e] [] p2) pos) fun env => (match (frz fr env)[i]? with
    | some (.own ds) => (f (frz fr env)).to (frz fr env) fun x => if ds.length < SL then .nx ((frz fr env).set i (.own (ds ++ [x.d]))) else .bad
    | _ => .bad) := by
  have st : starEach [e] X.env = [(false, eval e X.env)] := star_cons (es := []) hn
  have hfew : ((backTo p2 (starEach [e] X.env)).all (fun x => !x.1) && (backToKw p2 (keywordEach [] X.env)).all (fun x => x.1.isSome)
      && decide ([e].length + ([] : List Keyword).length + (if ([] : List Keyword).isEmpty then 0 else 1) < 30)) = true := by rw [st]; rfl
  have main := ps_expr (pos := pos) (pe_bm (apos := apos) (cpos := p2) PySem.F.plainAttrs_list PySem.F.slot_list_append PySem.F.type_list_append mt_append (pe_var (pos := p1) hi hx hd hcd) (pa_cons he pa_nil st) (base_ok rfl) hfew hl st (by rfl)) (sw_no rfl)
  refine main.imp fun D σ H ⟨G, env, rel, p⟩ => ?_
  obtain ⟨G', s, rel'⟩ := rel.frz fr
  dsimp only at p
  split at p
  · rename_i ds ed
    obtain ⟨l, vs, e1, h1, r1⟩ := own_at rel' ed
    refine ⟨.ref l, e1, .inl ⟨rfl, vs, SqL.of h1⟩, G', _, rel', to_bind rel' p fun a v H1 G1 st r q => ?_⟩
    obtain ⟨G2, st2, g2, rr⟩ := RV.still r st
    split at q
    · rename_i hz
      have rel2 := rel'.step st2
      obtain ⟨l2, vs2, e2, h2, r2⟩ := own_at rel2 ed
      rw [e1] at e2
      cases e2
      refine ⟨l, vs2, v, rfl, rfl, h2, by rw [r2.length, sizeLine_eq]; exact hz, ?_⟩
      exact q _ _ _ (rel2.write ed e1 h2 (r2.append (.cons rr .nil)))
    · exact False.elim q
  · exact False.elim p
theorem ss_seti {i : Nat} {x : Str} {k : Expr} {p1 p2 : Pos} (hi : X.N[i]? = some x) (hx : Vis X.env.scope x) (hd : (x == ("__debug__" : Str)) = false) (hcd : (x == ("__classdict__" : Str)) = false) (he : SE X T ca xa cx G0 H0 W e f) (hk : SE X T ca xa cx G0 H0 W k g) (hs : noSlice k = true) :
    SS X T ca xa cx G0 H0 W (.Assign [.Subscript (.Name x p1) k p2] e pos) fun env => (match (frz fr env)[i]? with
    | some (.own ds) => (f (frz fr env)).to (frz fr env) fun x => (g (frz fr env)).to (frz fr env) fun y => (match y with
      | .val (.int z) => (match ixNat ds.length z with
        | some j => .nx ((frz fr env).set i (.own (ds.set j x.d)))
        | none => .bad)
      | _ => .bad)
    | _ => .bad) := by
  refine (ps_asg he (pg_sub (pe_var (pos := p1) hi hx hd hcd) hk set_list (sub_assign hs)) (sws_no rfl) (by cases e <;> rfl)).imp fun D σ H ⟨G, env, rel, p⟩ => ?_
  obtain ⟨G', s, rel'⟩ := rel.frz fr
  dsimp only at p
  split at p
  · rename_i ds ed
    obtain ⟨l, vs, e1, h1, r1⟩ := own_at rel' ed
    refine ⟨G', _, rel', to_bind rel' p fun a v H1 G1 st r q => ?_⟩
    obtain ⟨G2, st2, g2, rr⟩ := RV.still r st
    have rel2 := rel'.step st2
    refine ⟨.ref l, e1, G2, _, rel2, to_bind rel2 q fun b y H2 G3 st3 ry q2 => ?_⟩
    split at q2
    · rename_i z
      split at q2
      · rename_i j ej
        cases (show Rep _ G3 y (.int z) from ry) with
        | int z =>
          have rel3 := rel2.step st3
          obtain ⟨l2, vs2, e2, h2, r2⟩ := own_at rel3 ed
          rw [e1] at e2
          cases e2
          refine ⟨l, vs2, z, j, rfl, rfl, h2, by rw [r2.length]; exact ej, ?_⟩
          exact q2 _ _ _ (rel3.write ed e1 h2 (r2.set (rr.mono st3.gg) j))
      · exact False.elim q2
    · exact False.elim q2
  · exact False.elim p
/-- o[i] as values -/
theorem get_own : PGet X (fun o i H Q => ∃ p xs k j v, o = .ref p ∧ i = .int k ∧ H p = some (.lst xs) ∧ ixN xs.length k = some j ∧ xs[j]? = some v ∧ Q v H) := by
  intro pins s σ H o i ov iv Q I ro ri h
  obtain ⟨p, xs, k, j, z, rfl, rfl, hp, hj, hv, q⟩ := h
  cases ro
  obtain ⟨t, rfl⟩ := ri
  obtain ⟨its, r, pl, hz⟩ := I.list (SqL.of hp)
  obtain ⟨h1, h2, h3, h4⟩ := ixN_seq hj
  obtain ⟨w, ew, rw'⟩ := r.get hv
  have hl := r.length
  have hn := line63
  have fin : EP X pins σ Q w s := ⟨z, H, I, rw', q⟩
  by_cases h0 : 0 ≤ k
  · have hj : k.toNat = j := by
      rw [seqIndex_of h0 h4] at h1
      exact Option.some.inj h1
    exact wpAny_getItem_list pl.isList h0 (by omega) (by rw [hj]; simpa using ew) fin
  · have hj : (k + (its.toArray.size : Int)).toNat = j := by
      rw [seqIndex_neg (by omega) h3] at h1
      rw [List.size_toArray, ← hl]
      exact Option.some.inj h1
    exact wpAny_getItem_list_neg pl.isList (by omega) (by rw [List.size_toArray] <;> omega) (by omega) (by rw [hj]; simpa using ew) fin
theorem ss_augi {i : Nat} {x : Str} {k : Expr} {p1 p2 : Pos} {op : O2} (hi : X.N[i]? = some x) (hx : Vis X.env.scope x) (hd : (x == ("__debug__" : Str)) = false) (hcd : (x == ("__classdict__" : Str)) = false) (he : SE X T ca xa cx G0 H0 W e f) (hk : SE X T ca xa cx G0 H0 W k g) (hs : noSlice k = true) :
    SS X T ca xa cx G0 H0 W (.AugAssign (.Subscript (.Name x p1) k p2) (augOp op) e pos) fun env => (match env[i]? with
    | some (.own ds) => (g env).to env fun y => (match y with
      | .val (.int z) => (match ixNat ds.length z with
        | some j => (match ds[j]? with
          | some (.int a) => (f env).to env fun x => (match x with
            | .val (.int b) => (match op with
              | .add => .nx (env.set i (.own (ds.set j (.int (a + b)))))
              | .sub => .nx (env.set i (.own (ds.set j (.int (a - b)))))
              | _ => .bad)
            | _ => .bad)
          | _ => .bad)
        | none => .bad)
      | _ => .bad)
    | _ => .bad) := by
  refine (ps_augS (pe_var (pos := p1) hi hx hd hcd) hk get_own he (pip_aug op) set_list (aug_store hs)).imp fun D σ H ⟨G, env, rel, p⟩ => ?_
  dsimp only at p
  split at p
  · rename_i ds ed
    obtain ⟨l, vs, e1, h1, r1⟩ := own_at rel ed
    refine ⟨.ref l, e1, G, env, rel, to_bind rel p fun b y H2 G2 st2 ry q => ?_⟩
    split at q
    · rename_i z
      split at q
      · rename_i j ej
        split at q
        · rename_i n ea
          cases (show Rep _ G2 y (.int z) from ry) with
          | int z =>
            have rel2 := rel.step st2
            obtain ⟨l2, vs2, e2, h2, r2⟩ := own_at rel2 ed
            rw [e1] at e2
            cases e2
            obtain ⟨v, ev, rv⟩ := r2.get ea
            cases rv with
            | int n =>
              refine ⟨l, vs2, z, j, .int n, rfl, rfl, h2, by rw [r2.length]; exact ej, ev, G2, env, rel2, to_bind rel2 q fun c w H3 G3 st3 rw3 q3 => ?_⟩
              split at q3
              · rename_i m
                cases (show Rep _ G3 w (.int m) from rw3) with
                | int m =>
                  have rel3 := rel2.step st3
                  obtain ⟨l3, vs3, e3, h3, r3⟩ := own_at rel3 ed
                  rw [e1] at e3
                  cases e3
                  refine ⟨n, m, rfl, rfl, l, vs3, z, j, rfl, rfl, h3, by rw [r3.length]; exact ej, ?_⟩
                  cases op with
                  | add => exact q3 _ _ _ (rel3.write ed e1 h3 (r3.set (.int _) j))
                  | sub => exact q3 _ _ _ (rel3.write ed e1 h3 (r3.set (.int _) j))
                  | _ => exact False.elim q3
              · exact False.elim q3
        · exact False.elim q
      · exact False.elim q
    · exact False.elim q
  · exact False.elim p
/-! ### self.f = e -/
theorem ss_setf {c j : Nat} {x n : Str} {ci : ClI} {p1 p2 : Pos} (hi : X.N[0]? = some x) (hx : Vis X.env.scope x) (hd : (x == ("__debug__" : Str)) = false) (hcd : (x == ("__classdict__" : Str)) = false) (he : SE X T ca xa cx G0 H0 W e f) (C : ClsOk X T ca c ci) (hn : ci.fields[j]? = some n) (hnd : ci.fields.Nodup) :
    SS X T ca xa cx G0 H0 W (.Assign [.Attribute (.Name x p1) n p2] e pos) fun env => (f (frz fr env)).to (frz fr env) fun x => (match (frz fr env).head? with
    | some (.obj k' ds) => if k' = c ∧ j = ds.length ∧ j < 100 then .nx ((frz fr env).set 0 (.obj c (ds ++ [x.d]))) else .bad
    | _ => .bad) := by
  refine (ps_fld (pe_var (pos := p1) hi hx hd hcd) he (by cases e <;> rfl)).imp fun D σ H ⟨G, env, rel, p⟩ => ?_
  obtain ⟨G', s, rel'⟩ := rel.frz fr
  refine ⟨G', _, rel', to_bind rel' p fun a v H1 G1 st r q => ?_⟩
  obtain ⟨G2, st2, g2, rr⟩ := RV.still r st
  have rel2 := rel'.step st2
  split at q
  · rename_i k' ds eo
    have eo : (frz fr env)[0]? = some (.obj k' ds) := by rw [← eo, List.head?_eq_getElem?]
    split at q
    · rename_i hc
      obtain ⟨hc1, hc2, hc3⟩ := hc
      subst hc1
      obtain ⟨a, dx, fs, vs, ci', e1, h1, h2, h3, h4, h5, r5, ho⟩ := rel2.sl 0 _ eo
      rw [C.at_] at h4
      obtain rfl := Option.some.inj h4
      have hl : fs.length < 1000 := by
        have := h5.len
        have := r5.length
        omega
      refine ⟨.ref a, e1, a, ca k', dx, fs, rfl, h1, C.cls, C.no n (List.mem_of_getElem? hn), hl, ?_⟩
      refine q _ _ _ (rel2.writeG eo e1 h1 (by intro _; simp) h3 h2 ?_ fun q hq => ?_)
      · refine ⟨a, dx, putF n v fs, vs ++ [v], ci, e1, upd_same, h2, h3, C.at_, ⟨fun i m w em ew => ?_, fun m hm => ?_, ?_⟩, r5.append (.cons rr .nil), ho⟩
        · rw [lookup_putF]
          have hlen := r5.length
          by_cases hi : i < vs.length
          · rw [List.getElem?_append_left hi] at ew
            have hmn : m ≠ n := fun z => by
              subst z
              have := nodup_ix hnd em hn
              omega
            rw [if_neg hmn]
            exact h5.at_ i m w em ew
          · rw [List.getElem?_append_right (by omega)] at ew
            have hi2 : i - vs.length = 0 := by
              cases q : i - vs.length with
              | zero => rfl
              | succ k => rw [q] at ew; simp at ew
            rw [hi2] at ew
            have : i = j := by omega
            subst this
            rw [hn] at em
            cases em
            rw [if_pos rfl]
            simpa using ew
        · rw [lookup_putF, if_neg (fun z => hm (by rw [z]; exact List.mem_of_getElem? hn))]
          exact h5.no m hm
        · have := length_putF n v fs
          have := h5.len
          rw [List.length_append, List.length_singleton]
          omega
      · exact hq
    · exact False.elim q
  · exact False.elim q
/-! ### while -/
theorem ss_whl {t : Expr} {bs : List Stmt} {ft : Env → Res Bool} {fb : Env → Out} {n : Nat} (hp : PassesOwn (model X.prog X.w) X.A X.env X.xe) (ht : ST X T ca xa cx G0 H0 W t ft) (hb : SSs X T ca xa cx G0 H0 W bs fb) :
    SS X T ca xa cx G0 H0 W (.While t bs [] pos) fun env => whlLoop ft fb fr n env :=
  (ps_while hp ht hb).imp fun D σ H ⟨G, env, rel, p⟩ => by
    refine ⟨fun m σ H => ∃ G env, Rel (PX X T ca xa) cx G0 H0 G H σ env ∧ OutP (PX X T ca xa) cx G0 H0 W D (whlLoop ft fb fr m env), ⟨n, G, env, rel, p⟩, ?_⟩
    rintro m σ H ⟨G, env, rel, p⟩
    cases m with
    | zero => exact False.elim p
    | succ m =>
      obtain ⟨G', s, rel'⟩ := rel.frz fr
      refine ⟨G', _, rel', to_bind rel' p fun k b H1 G1 st r q => ?_⟩
      have r : b = k := r
      subst r
      cases b with
      | false => rw [if_neg Bool.false_ne_true] at q ⊢; exact q _ _ _ (rel'.step st)
      | true =>
        rw [if_pos rfl] at q ⊢
        refine ⟨fun σ H => ∃ G env, Rel (PX X T ca xa) cx G0 H0 G H σ env ∧ OutP (PX X T ca xa) cx G0 H0 W D (whlLoop ft fb fr m env), fun σ' H' h => ⟨m, Nat.lt_succ_self _, h⟩, G1, _, rel'.step st, ?_⟩
        cases e : fb (frz fr env) with
        | nx e2 => rw [e] at q; exact fun σ2 H2 G2 r2 => ⟨G2, e2, r2, q⟩
        | ct e2 => rw [e] at q; exact fun σ2 H2 G2 r2 => ⟨G2, e2, r2, q⟩
        | ret r => rw [e] at q; exact q
        | err k fs e2 => rw [e] at q; exact q
        | bad => rw [e] at q; exact q
        | rtd o => rw [e] at q; exact q
/-! ### return x, self.f -/
theorem ss_reto {i : Nat} {x : Str} {p1 : Pos} (hi : X.N[i]? = some x) (hx : Vis X.env.scope x) (hd : (x == ("__debug__" : Str)) = false) (hcd : (x == ("__classdict__" : Str)) = false) : SS X T ca xa cx G0 H0 W (.Return (some (.Name x p1)) pos) fun env => (match env[i]? with
    | some (.own ds) => .ret (.own ds)
    | some (.val d) => .ret (.val d)
    | _ => .bad) :=
  (ps_ret (pe_var (pos := p1) hi hx hd hcd)).imp fun D σ H ⟨G, env, rel, p⟩ => by
    dsimp only at p
    cases e : env[i]? with
    | none => rw [e] at p; exact False.elim p
    | some s =>
      have q := rel.sl i s e
      rw [e] at p
      cases s with
      | val d =>
        obtain ⟨v, e2, r⟩ := q
        exact ⟨v, e2, p v H G rel.toStep r⟩
      | own ds =>
        obtain ⟨a, vs, e2, h1, h2, h3, r⟩ := q
        exact ⟨_, e2, p _ H G rel.toStep ⟨a, vs, rfl, h1, h2, h3, r⟩⟩
      | _ => exact False.elim p
theorem s_sf {k j i : Nat} {x n : Str} {p1 : Pos} {ci : ClI} (hi : X.N[i]? = some x) (hx : Vis X.env.scope x) (hd : (x == ("__debug__" : Str)) = false) (hcd : (x == ("__classdict__" : Str)) = false) (C : ClsOk X T ca k ci) (hn : ci.fields[j]? = some n) :
    SE X T ca xa cx G0 H0 W (.Attribute (.Name x p1) n pos) fun env => (match env[i]? with
    | some (.obj k' fs) => if k' = k then (match fs[j]? with
      | some d => .ok (.val d)
      | none => .bad) else .bad
    | _ => .bad) :=
  (pe_fld (pe_var (pos := p1) hi hx hd hcd) (base_ok rfl)).imp fun σ H Q ⟨G, env, rel, p⟩ => by
    dsimp only at p
    cases e : env[i]? with
    | none => rw [e] at p; exact False.elim p
    | some s =>
      have q := rel.sl i s e
      rw [e] at p
      cases s with
      | obj k' fs =>
        dsimp only at p
        split at p
        · rename_i ek
          subst ek
          split at p
          · rename_i d ed
            obtain ⟨a, dx, l, vs, ci', e2, h1, h2, h3, h4, h5, r, _⟩ := q
            rw [C.at_] at h4
            obtain rfl := Option.some.inj h4
            obtain ⟨v, ev, rv⟩ := r.get ed
            exact ⟨_, e2, a, ca k', dx, l, v, rfl, h1, C.cls, C.no n (List.mem_of_getElem? hn), h5.at_ j n v hn ev, p v H G (Step.refl rel.gh) rv⟩
          · exact False.elim p
        · exact False.elim p
      | _ => exact False.elim p
end
end PL

set_option linter.all false
set_option Elab.async false
set_option maxRecDepth 100000
set_option maxHeartbeats 1000000
/-! Soundness, part 10: what is walked; for; list comprehensions. -/
namespace PL
open PySem PySem.Spec PyProof.Rows L2
section
variable {X : Cx} {T : Tab} {ca xa : Nat → Addr} {cx : Hand} {G0 H0 : Hp} {W : WX} {a b c d e o : Expr} {fa fb fc fd : Env → Res D} {f g : Env → Res Vl} {pos p : Pos} {fr : List Nat} {tg : Expr}
/-- walking: the items are data -/
def ItOk (P : Par) (G H : Hp) (J : L2.It) (ds : List D) (i : Nat) : Prop := (∀ d, ds[i]? = some d → J.go i H ∧ ∀ x Hx, J.yld i H x Hx → Hx = H ∧ Rep P G x d) ∧ (ds.length ≤ i → J.stop i H)
def RItF (P : Par) (hk : Hp) (_H G' H' : Hp) (J : L2.It) (ds : List D) : Prop := ∀ i G2 H2, Same G' G2 → Same G2 H2 → Same hk H2 → ItOk P G2 H2 J ds i
def RItC (P : Par) (_H G' H' : Hp) (J : L2.It) (ds : List D) : Prop := ∀ i G2 H2, Step G' H' G2 H2 → ItOk P G2 H2 J ds i
theorem anti_F {P : Par} {hk : Hp} : Anti (RItF P hk) := fun _ _ _ _ _ _ _ h => h
theorem anti_C {P : Par} : Anti (RItC P) := fun _ _ _ _ _ _ _ h => h
abbrev SIF (X : Cx) (T : Tab) (ca xa : Nat → Addr) (cx : Hand) (G0 H0 : Hp) (W : WX) (tg e : Expr) (f : Env → Res (List D)) : Prop := PI X tg e (tR (PX X T ca xa) cx G0 H0 W (RItF (PX X T ca xa) cx.hk) f)
abbrev SIC (X : Cx) (T : Tab) (ca xa : Nat → Addr) (cx : Hand) (G0 H0 : Hp) (W : WX) (tg e : Expr) (f : Env → Res (List D)) : Prop := PI X tg e (tR (PX X T ca xa) cx G0 H0 W (RItC (PX X T ca xa)) f)
theorem _root_.L2.PI.imp {X : Cx} {tg e : Expr} {t t' : TI} (h : PI X tg e t) (i : ∀ σ H Q, t' σ H Q → t σ H Q) : PI X tg e t' := ⟨fun pins s σ H Q I q => h.run pins s σ H Q I (i σ H Q q)⟩
/-- list, tuple or text -/
def iSeq (K : PySem.W.Frag) (te : TE) : TI := fun σ H R => te σ H fun x H1 => (∃ a xs, x = .ref a ∧ SqL K H1 a xs ∧ R (Itl K a) H1) ∨ (∃ a xs, x = .ref a ∧ SqT K H1 a xs ∧ R (Itt K a) H1) ∨ ∃ z, x = .str z ∧ R (Its z) H1
theorem pi_seq {te : TE} (he : PE X e te) : PI X tg e (iSeq X.K te) := by
  refine ⟨fun pins s σ H R I h => ?_⟩
  refine thn (he.run pins s σ H _ I h) fun v s1 ⟨x, H1, I1, r1, q1⟩ => ?_
  rcases q1 with ⟨a, xs, e, hq, q⟩ | ⟨a, xs, e, hq, q⟩ | ⟨z, e, q⟩
  · subst e
    cases r1
    obtain ⟨its, rv, p, hz⟩ := I1.list hq
    refine wpAny_pyIter_list p.isList ?_
    refine ⟨s1.heap.objs.size, [s1.heap.objs.size], _, _, H1, rfl, I1.kept (t' := s1.toks) fun b o e => Heap.get?_push_of_some _ e, turn_list a _, ⟨_, Heap.get?_push_size _ rfl, rfl, rfl⟩, fun b hb => ?_, q⟩
    have e : b = s1.heap.objs.size := by simpa using hb
    subst e
    exact I1.fpOk (Nat.le_refl _) (I1.hok.fresh (Nat.le_refl _))
  · subst e
    cases r1
    obtain ⟨its, rv, p, hz⟩ := I1.tuple hq
    refine wpAny_pyIter_tuple (show s1.heap.IsTuple a its.toArray from p) ?_
    refine ⟨s1.heap.objs.size, [s1.heap.objs.size], _, _, H1, rfl, I1.kept (t' := s1.toks) fun b o e => Heap.get?_push_of_some _ e, turn_tuple a _, ⟨_, Heap.get?_push_size _ rfl, rfl, rfl⟩, fun b hb => ?_, q⟩
    have e : b = s1.heap.objs.size := by simpa using hb
    subst e
    exact I1.fpOk (Nat.le_refl _) (I1.hok.fresh (Nat.le_refl _))
  · subst e
    obtain ⟨t, rfl⟩ := r1
    cases ha : z.cps.all (· < 128)
    · exact wpAny_pyIter_wide ha (pi_one (tk := s1.toks) I1 _ (turn_str _ z t "str_iterator" (.inr rfl)) ⟨_, Heap.get?_push_size _ rfl, rfl, rfl⟩ q)
    · exact wpAny_pyIter_ascii ha (pi_one (tk := s1.toks) I1 _ (turn_str _ z t "str_ascii_iterator" (.inl rfl)) ⟨_, Heap.get?_push_size _ rfl, rfl, rfl⟩ q)

/-! ### walking data -/
theorem itl_ok {P : Par} {G H : Hp} {a : Addr} {vs : List V} {ds : List D} {i : Nat} (hq : SqL P.K H a vs) (inj : ∀ xs, SqL P.K H a xs → xs = vs) (r : Reps P G vs ds) : ItOk P G H (Itl P.K a) ds i := by
  refine ⟨fun d e => ?_, fun h => ⟨vs, hq, by rw [r.length]; exact h⟩⟩
  obtain ⟨v, e1, r1⟩ := r.get e
  refine ⟨⟨vs, v, hq, e1⟩, fun x Hx y => ?_⟩
  obtain ⟨e2, y⟩ := y
  have e3 := y vs hq
  rw [e1] at e3
  cases e3
  exact ⟨e2, r1⟩
theorem itl_ok' {P : Par} {G H : Hp} {a : Addr} {vs : List V} {ds : List D} {i : Nat} (hq : SqL P.K H a vs) (r : Reps P G vs ds) : ItOk P G H (Itl P.K a) ds i := by
  refine ⟨fun d e => ?_, fun h => ⟨vs, hq, by rw [r.length]; exact h⟩⟩
  obtain ⟨v, e1, r1⟩ := r.get e
  refine ⟨⟨vs, v, hq, e1⟩, fun x Hx y => ?_⟩
  obtain ⟨e2, y⟩ := y
  have e3 := y vs hq
  rw [e1] at e3
  cases e3
  exact ⟨e2, r1⟩
theorem itt_ok {P : Par} {G H : Hp} {a : Addr} {vs : List V} {ds : List D} {i : Nat} (hq : SqT P.K H a vs) (r : Reps P G vs ds) : ItOk P G H (Itt P.K a) ds i := by
  refine ⟨fun d e => ?_, fun h => ⟨vs, hq, by rw [r.length]; exact h⟩⟩
  obtain ⟨v, e1, r1⟩ := r.get e
  refine ⟨⟨vs, v, hq, e1⟩, fun x Hx y => ?_⟩
  obtain ⟨e2, y⟩ := y
  have e3 := y vs hq
  rw [e1] at e3
  cases e3
  exact ⟨e2, r1⟩
theorem its_ok {P : Par} {G H : Hp} {z : Str} {i : Nat} : ItOk P G H (Its z) (z.cps.toList.map fun c => .str ⟨#[c]⟩) i := by
  refine ⟨fun d e => ?_, fun h => ?_⟩
  · rw [List.getElem?_map] at e
    cases q : z.cps.toList[i]? with
    | none => rw [q] at e; cases e
    | some c =>
      rw [q] at e
      cases e
      have q2 : z.cps[i]? = some c := by simpa using q
      refine ⟨?_, fun x Hx y => ?_⟩
      · show i < z.cps.size
        exact (Array.getElem?_eq_some_iff.mp q2).1
      · obtain ⟨e2, c', e3, e4⟩ := y
        rw [q2] at e3
        cases e3
        subst e4
        exact ⟨e2, .str _⟩
  · show z.cps.size ≤ i
    simpa using h
theorem itv_ok {P : Par} {G H : Hp} {a : Addr} {vs : List V} {ds : List D} {i : Nat} (hq : SqL P.K H a vs) (r : Reps P G vs ds) : ItOk P G H (Itv P.K a vs.length) ds.reverse i := by
  have hl := r.length
  refine ⟨fun d e => ?_, fun h => by
    rw [List.length_reverse] at h
    show vs.length ≤ i
    omega⟩
  have hi : i < ds.length := by
    have := (List.getElem?_eq_some_iff.mp e).1
    simpa using this
  rw [List.getElem?_reverse hi] at e
  rw [← hl] at e
  obtain ⟨v, e1, r1⟩ := r.get e
  refine ⟨⟨by omega, vs, v, hq, e1⟩, fun x Hx y => ?_⟩
  obtain ⟨e2, y⟩ := y
  have e3 := y vs hq
  rw [e1] at e3
  cases e3
  exact ⟨e2, r1⟩
theorem itr_ok {P : Par} {G H : Hp} {i : Nat} (lo hi : Int) : ItOk P G H (Itr lo (hi - lo).toNat) (rangeD lo hi) i := by
  unfold rangeD
  refine ⟨fun d e => ?_, fun h => ?_⟩
  · rw [List.getElem?_map] at e
    cases q : (List.range (hi - lo).toNat)[i]? with
    | none => rw [q] at e; cases e
    | some k =>
      rw [q] at e
      cases e
      obtain ⟨h1, h2⟩ := List.getElem?_eq_some_iff.mp q
      rw [List.length_range] at h1
      rw [List.getElem_range] at h2
      subst h2
      refine ⟨h1, fun x Hx y => ?_⟩
      obtain ⟨e2, e3⟩ := y
      subst e3
      exact ⟨e2, .int _⟩
  · show (hi - lo).toNat ≤ i
    simpa using h
theorem itc_ok {P : Par} {G H : Hp} {i : Nat} (lo hi : Int) : ItOk P G H (Itc (lo + (((hi - lo).toNat : Nat) : Int) - 1) (-1) (hi - lo).toNat) (rangeD lo hi).reverse i := by
  have hlen : (rangeD lo hi).length = (hi - lo).toNat := by simp [rangeD]
  refine ⟨fun d e => ?_, fun h => ?_⟩
  · have hi' : i < (rangeD lo hi).length := by
      have := (List.getElem?_eq_some_iff.mp e).1
      simpa using this
    rw [List.getElem?_reverse hi', hlen] at e
    rw [hlen] at hi'
    unfold rangeD at e
    rw [List.getElem?_map] at e
    cases q : (List.range (hi - lo).toNat)[(hi - lo).toNat - 1 - i]? with
    | none => rw [q] at e; cases e
    | some k =>
      rw [q] at e
      cases e
      obtain ⟨h1, h2⟩ := List.getElem?_eq_some_iff.mp q
      rw [List.getElem_range] at h2
      subst h2
      refine ⟨hi', fun x Hx y => ?_⟩
      obtain ⟨e2, e3⟩ := y
      have e4 : lo + (((hi - lo).toNat - 1 - i : Nat) : Int) = lo + (((hi - lo).toNat : Nat) : Int) - 1 + (i : Nat) * (-1) := by omega
      subst e3
      refine ⟨e2, ?_⟩
      show Rep P G (V.int _) (D.int (lo + (((hi - lo).toNat - 1 - i : Nat) : Int)))
      rw [e4]
      exact .int _
  · show (hi - lo).toNat ≤ i
    rw [List.length_reverse, hlen] at h
    exact h

theorem itc3_ok {P : Par} {G H : Hp} {i : Nat} (lo hi k : Int) : ItOk P G H (Itc lo k (rangeN lo hi k)) (rangeC lo hi k) i := by
  unfold rangeC
  refine ⟨fun d e => ?_, fun h => ?_⟩
  · rw [List.getElem?_map] at e
    cases q : (List.range (rangeN lo hi k))[i]? with
    | none => rw [q] at e; cases e
    | some j =>
      rw [q] at e
      cases e
      obtain ⟨h1, h2⟩ := List.getElem?_eq_some_iff.mp q
      rw [List.length_range] at h1
      rw [List.getElem_range] at h2
      subst h2
      refine ⟨h1, fun x Hx y => ?_⟩
      obtain ⟨e2, e3⟩ := y
      subst e3
      exact ⟨e2, .int _⟩
  · show rangeN lo hi k ≤ i
    simpa using h
theorem rgc3 {i j k : Int} (hi : inR i = true) (hj : inR j = true) (h0 : 0 < k) (h1 : k < 1073741824) : RgC i j k (rangeN i j k) := by
  simp only [inR, Bool.and_eq_true, decide_eq_true_eq] at hi hj
  have hn : Builtin.Range.rangeSize i j k = (rangeN i j k : Nat) := by
    unfold Builtin.Range.rangeSize rangeN
    rw [if_pos h0]
    by_cases h : i < j
    · rw [if_pos h, if_pos h]
      have := Int.ediv_nonneg (show 0 ≤ j - i - 1 by omega) (show 0 ≤ k by omega)
      omega
    · rw [if_neg h, if_neg h]
      rfl
  refine ⟨by omega, by omega, ?_, hn⟩
  have hle : ((rangeN i j k : Nat) : Int) ≤ 2 ^ 63 - 1 := by
    unfold rangeN
    by_cases h : i < j
    · rw [if_pos h]
      have a := Int.ediv_nonneg (show 0 ≤ j - i - 1 by omega) (show 0 ≤ k by omega)
      have b := Int.ediv_le_self k (show 0 ≤ j - i - 1 by omega)
      omega
    · rw [if_neg h]
      decide
  unfold Builtin.Range.small
  rw [hn]
  simp only [Builtin.Range.rangeFitsLong, Bool.and_eq_true, Bool.or_eq_true, decide_eq_true_eq, beq_iff_eq, show k > 0 from h0, if_true]
  omega
/-! ### sources -/
/-- what a for asks of a source is enough for a comprehension -/
theorem si_C {f : Env → Res (List D)} (h : SIF X T ca xa cx G0 H0 W tg e f) : SIC X T ca xa cx G0 H0 W tg e f :=
  h.imp fun σ H R ⟨G, env, rel, q⟩ => ⟨G, env, rel, Post.bind (k := .ok) anti_C (by cases e : f env <;> (rw [e] at q; exact q)) fun ds J H1 G1 s r q1 => q1 J H1 G1 (Step.refl s.gh) fun i G2 H2 st => r i G2 H2 st.gg st.gh (((rel.hk.trans rel.hh).trans s.hh).trans st.hh)⟩
theorem sif_e (he : SE X T ca xa cx G0 H0 W e f) : SIF X T ca xa cx G0 H0 W tg e fun env => ((f env).bind fun x => .ok x.d).bind fun x => (match walkOf x with
    | some ds => .ok ds
    | none => .bad) :=
  (pi_seq (s_toD he)).imp fun σ H R ⟨G, env, rel, q⟩ => ⟨G, env, rel, Post.bind anti_F q fun d x H1 G1 s r q1 => by
    have r : Rep _ G1 x d := r
    cases r with
    | lst h r2 => exact .inl ⟨_, _, rfl, SqL.of (s.gh _ _ h), q1 _ _ _ (Step.refl s.gh) fun i G2 H2 s1 s2 s3 => itl_ok' (P := PX X T ca xa) (SqL.of (s2 _ _ (s1 _ _ h))) (r2.mono s1)⟩
    | tup h r2 => exact .inr (.inl ⟨_, _, rfl, SqT.of (s.gh _ _ h), q1 _ _ _ (Step.refl s.gh) fun i G2 H2 s1 s2 s3 => itt_ok (P := PX X T ca xa) (SqT.of (s2 _ _ (s1 _ _ h))) (r2.mono s1)⟩)
    | str z => exact .inr (.inr ⟨z, rfl, q1 _ _ _ (Step.refl s.gh) fun i G2 H2 s1 s2 s3 => its_ok⟩)
    | _ => exact False.elim q1⟩
theorem sif_s {i : Nat} {x : Str} {pos : Pos} (hN : X.N[i]? = some x) (hv : Vis X.env.scope x) (hd : (x == ("__debug__" : Str)) = false) (hcd : (x == ("__classdict__" : Str)) = false) : SIF X T ca xa cx G0 H0 W tg (.Name x pos) fun env => (match env[i]? with
    | some (.val d) => (match walkOf d with
      | some ds => .ok ds
      | none => .bad)
    | some (.pk ds) => .ok ds
    | _ => .bad) :=
  (pi_seq (pe_var hN hv hd hcd)).imp fun σ H R ⟨G, env, rel, q⟩ => by
    dsimp only at q
    cases e : env[i]? with
    | none => rw [e] at q; exact q.elim
    | some s =>
      have sl := rel.sl i s e
      rw [e] at q
      cases s with
      | val d =>
        obtain ⟨v, e2, r⟩ := sl
        refine ⟨v, e2, ?_⟩
        cases r with
        | lst h r2 => exact .inl ⟨_, _, rfl, SqL.of (rel.gh _ _ h), q _ _ _ (Step.refl rel.gh) fun i G2 H2 s1 s2 s3 => itl_ok' (P := PX X T ca xa) (SqL.of (s2 _ _ (s1 _ _ h))) (r2.mono s1)⟩
        | tup h r2 => exact .inr (.inl ⟨_, _, rfl, SqT.of (rel.gh _ _ h), q _ _ _ (Step.refl rel.gh) fun i G2 H2 s1 s2 s3 => itt_ok (P := PX X T ca xa) (SqT.of (s2 _ _ (s1 _ _ h))) (r2.mono s1)⟩)
        | str z => exact .inr (.inr ⟨z, rfl, q _ _ _ (Step.refl rel.gh) fun i G2 H2 s1 s2 s3 => its_ok⟩)
        | _ => exact False.elim q
      | pk ds =>
        obtain ⟨a, vs, e2, h1, r⟩ := sl
        exact ⟨_, e2, .inl ⟨a, vs, rfl, (rel.hk.trans rel.hh).seq h1, q _ _ _ (Step.refl rel.gh) fun i G2 H2 s1 s2 s3 => itl_ok' (P := PX X T ca xa) (s3.seq h1) (r.mono s1)⟩⟩
      | _ => exact q.elim
theorem sic_o (ha : SP' X T ca xa cx G0 H0 W e fa) : SIC X T ca xa cx G0 H0 W tg e fun env => (fa env).bind fun x => (match walkOf x with
    | some ds => .ok ds
    | none => .bad) :=
  (pi_seq ha).imp fun σ H R ⟨G, env, rel, q⟩ => ⟨G, env, rel, Post.bind anti_C q fun d x H1 G1 s r q1 => by
    rcases r with r | ⟨a, vs, ds, rfl, rfl, h, r⟩
    · cases r with
      | lst h r2 => exact .inl ⟨_, _, rfl, SqL.of (s.gh _ _ h), q1 _ _ _ (Step.refl s.gh) fun i G2 H2 st => itl_ok' (P := PX X T ca xa) (SqL.of (st.hh _ _ (s.gh _ _ h))) (r2.mono st.gg)⟩
      | tup h r2 => exact .inr (.inl ⟨_, _, rfl, SqT.of (s.gh _ _ h), q1 _ _ _ (Step.refl s.gh) fun i G2 H2 st => itt_ok (P := PX X T ca xa) (SqT.of (st.hh _ _ (s.gh _ _ h))) (r2.mono st.gg)⟩)
      | str z => exact .inr (.inr ⟨z, rfl, q1 _ _ _ (Step.refl s.gh) fun i G2 H2 st => its_ok⟩)
      | _ => exact False.elim q1
    · exact .inl ⟨a, vs, rfl, h, q1 _ _ _ (Step.refl s.gh) fun i G2 H2 st => itl_ok' (P := PX X T ca xa) (st.hh.seq h) (r.mono st.gg)⟩⟩
theorem sif_r1 (hg : Gl X "range") (hm : X.mg "range" = none) (ha : SE X T ca xa cx G0 H0 W a f) (hs : noStar a = true) : SIF X T ca xa cx G0 H0 W tg (.Call (.Name "range" p) [a] [] pos) fun env => (f env).bind fun x => (asInt x).bind fun i => if inR i = true then .ok (rangeD 0 i) else .bad :=
  (pi_range1 hg hm (pa_cons ha pa_nil (star_cons hs)) (star_cons (es := []) hs)).imp fun σ H R ⟨G, env, rel, q⟩ => ⟨G, env, rel, Post.bind anti_F q fun r x H1 G1 s rr q1 => by
    obtain ⟨k, e, q2⟩ := post_int rr q1
    split at q2
    · rename_i h
      simp only [inR, Bool.and_eq_true, decide_eq_true_eq] at h
      subst e
      refine ⟨k, rfl, h.1, h.2, q2 _ _ _ (Step.refl s.gh) fun i G2 H2 _ _ _ => ?_⟩
      have := itr_ok (P := PX X T ca xa) (G := G2) (H := H2) (i := i) 0 k
      rw [Int.sub_zero] at this
      exact this
    · exact False.elim q2⟩
theorem sif_r2 (hg : Gl X "range") (hm : X.mg "range" = none) (ha : SE X T ca xa cx G0 H0 W a f) (hb : SE X T ca xa cx G0 H0 W b g) (hs : noStar a = true) (hs2 : noStar b = true) : SIF X T ca xa cx G0 H0 W tg (.Call (.Name "range" p) [a, b] [] pos) fun env => (f env).bind fun x => (asInt x).bind fun i => (g env).bind fun y => (asInt y).bind fun j => if inR i && inR j then .ok (rangeD i j) else .bad :=
  (pi_range2 hg hm (pa_cons ha (pa_cons hb pa_nil (star_cons hs2)) (star_cons hs)) (by rw [star_cons hs, star_cons hs2]; rfl) (star_cons (es := []) hs2)).imp fun σ H R ⟨G, env, rel, q⟩ => ⟨G, env, rel, Post.bind anti_F q fun r x H1 G1 s rr q1 => by
    obtain ⟨k, e, q2⟩ := post_int rr q1
    subst e
    exact ⟨G1, env, rel.step s, Post.bind anti_F q2 fun r2 y H2 G2 s2 rr2 q3 => by
      obtain ⟨l, e2, q4⟩ := post_int rr2 q3
      subst e2
      split at q4
      · rename_i h
        simp only [inR, Bool.and_eq_true, decide_eq_true_eq] at h
        exact ⟨k, l, rfl, ⟨h.1.1, h.1.2, h.2.1, h.2.2⟩, q4 _ _ _ (Step.refl s2.gh) fun i G2 H2 _ _ _ => itr_ok k l⟩
      · exact False.elim q4⟩⟩
theorem sif_r3 {d : Expr} {h : Env → Res Vl} (hg : Gl X "range") (hm : X.mg "range" = none) (ha : SE X T ca xa cx G0 H0 W a f) (hb : SE X T ca xa cx G0 H0 W b g) (hd : SE X T ca xa cx G0 H0 W d h) (hs : noStar a = true) (hs2 : noStar b = true) (hs3 : noStar d = true) :
    SIF X T ca xa cx G0 H0 W tg (.Call (.Name "range" p) [a, b, d] [] pos) fun env => (f env).bind fun x => (asInt x).bind fun i => (g env).bind fun y => (asInt y).bind fun j => (h env).bind fun z => (asInt z).bind fun m => if inR i && (inR j && decide (0 < m ∧ m < 1073741824)) then .ok (rangeC i j m) else .bad :=
  (pi_range3 hg hm (pa_cons ha (pa_cons hb (pa_cons hd pa_nil (star_cons hs3)) (star_cons hs2)) (star_cons hs)) (star_cons hs) (star_any (by simp [hs2, hs3]))).imp fun σ H R ⟨G, env, rel, q⟩ => ⟨G, env, rel, Post.bind anti_F q fun r x H1 G1 s rr q1 => by
    obtain ⟨k, e, q2⟩ := post_int rr q1
    subst e
    exact ⟨G1, env, rel.step s, Post.bind anti_F q2 fun r2 y H2 G2 s2 rr2 q3 => by
      obtain ⟨l, e2, q4⟩ := post_int rr2 q3
      subst e2
      exact ⟨G2, env, (rel.step s).step s2, Post.bind anti_F q4 fun r3 z H3 G3 s3 rr3 q5 => by
        obtain ⟨m, e3, q6⟩ := post_int rr3 q5
        subst e3
        split at q6
        · rename_i hh
          simp only [Bool.and_eq_true, decide_eq_true_eq] at hh
          exact ⟨k, l, m, _, rfl, rgc3 hh.1 hh.2.1 hh.2.2.1 hh.2.2.2, q6 _ _ _ (Step.refl s3.gh) fun i G2 H2 _ _ _ => itc3_ok k l m⟩
        · exact False.elim q6⟩⟩⟩
theorem sif_rr (hg : Gl X "range") (hm : X.mg "range" = none) (hg2 : Gl X "reversed") (hm2 : X.mg "reversed" = none) {p2 pos2 : Pos} (ha : SE X T ca xa cx G0 H0 W a f) (hb : SE X T ca xa cx G0 H0 W b g) (hs : noStar a = true) (hs2 : noStar b = true) :
    SIF X T ca xa cx G0 H0 W tg (.Call (.Name "reversed" p2) [.Call (.Name "range" p) [a, b] [] pos] [] pos2) fun env => (f env).bind fun x => (asInt x).bind fun i => (g env).bind fun y => (asInt y).bind fun j => if inR i && inR j then .ok (rangeD i j).reverse else .bad :=
  (pi_revR hg2 hm2 (prg_2 (pos := pos) (p := p) hg hm ha hb (by rw [star_cons hs]) (star_cons (es := []) hs2) (by rw [star_cons (es := []) hs2]; rfl)) rfl).imp fun σ H R ⟨G, env, rel, q⟩ => ⟨G, env, rel, Post.bind anti_F q fun r x H1 G1 s rr q1 => by
    obtain ⟨k, e, q2⟩ := post_int rr q1
    subst e
    exact ⟨G1, env, rel.step s, Post.bind anti_F q2 fun r2 y H2 G2 s2 rr2 q3 => by
      obtain ⟨l, e2, q4⟩ := post_int rr2 q3
      subst e2
      split at q4
      · rename_i h
        simp only [inR, Bool.and_eq_true, decide_eq_true_eq] at h
        exact ⟨k, l, rfl, rfl, h.1.1, h.1.2, h.2.1, h.2.2, q4 _ _ _ (Step.refl s2.gh) fun i G2 H2 _ _ _ => itc_ok k l⟩
      · exact False.elim q4⟩⟩
theorem sif_rr1 (hg : Gl X "range") (hm : X.mg "range" = none) (hg2 : Gl X "reversed") (hm2 : X.mg "reversed" = none) {p2 pos2 : Pos} (hb : SE X T ca xa cx G0 H0 W b g) (hs2 : noStar b = true) :
    SIF X T ca xa cx G0 H0 W tg (.Call (.Name "reversed" p2) [.Call (.Name "range" p) [b] [] pos] [] pos2) fun env => (Res.ok (Vl.val (D.int 0))).bind fun x => (asInt x).bind fun i => (g env).bind fun y => (asInt y).bind fun j => if inR i && inR j then .ok (rangeD i j).reverse else .bad :=
  (pi_revR hg2 hm2 (prg_1 (pos := pos) (p := p) hg hm hb (star_cons (es := []) hs2)) rfl).imp fun σ H R ⟨G, env, rel, q⟩ => ⟨G, env, rel, Post.bind anti_F (show Post _ W σ G H _ ((g env).bind fun y => (asInt y).bind fun j => if inR 0 && inR j then .ok (rangeD 0 j).reverse else .bad) R from q) fun r2 y H2 G2 s2 rr2 q3 => by
      obtain ⟨l, e2, q4⟩ := post_int rr2 q3
      subst e2
      split at q4
      · rename_i h
        simp only [inR, Bool.and_eq_true, decide_eq_true_eq] at h
        exact ⟨l, rfl, by omega, by omega, h.2.1, h.2.2, q4 _ _ _ (Step.refl s2.gh) fun i G2 H2 _ _ _ => itc_ok 0 l⟩
      · exact False.elim q4⟩
theorem sif_reve (hg : Gl X "reversed") (hm : X.mg "reversed" = none) (ha : SE X T ca xa cx G0 H0 W a f) (hs : noStar a = true) : SIF X T ca xa cx G0 H0 W tg (.Call (.Name "reversed" p) [a] [] pos) fun env => ((f env).bind fun x => .ok x.d).bind fun x => (match x with
    | .lst ds => .ok ds.reverse
    | _ => .bad) :=
  (pi_reversed hg hm (pa_cons (s_toD ha) pa_nil (star_cons hs)) (star_cons (es := []) hs)).imp fun σ H R ⟨G, env, rel, q⟩ => ⟨G, env, rel, Post.bind anti_F q fun d x H1 G1 s r q1 => by
    have r : Rep _ G1 x d := r
    cases r with
    | lst h r2 => exact ⟨_, _, rfl, SqL.of (s.gh _ _ h), q1 _ _ _ (Step.refl s.gh) fun i G2 H2 s1 s2 s3 => itv_ok (P := PX X T ca xa) (SqL.of (s2 _ _ (s1 _ _ h))) (r2.mono s1)⟩
    | _ => exact False.elim q1⟩
theorem sif_revs {i : Nat} {x : Str} {px : Pos} (hg : Gl X "reversed") (hm : X.mg "reversed" = none) (hN : X.N[i]? = some x) (hv : Vis X.env.scope x) (hd : (x == ("__debug__" : Str)) = false) (hcd : (x == ("__classdict__" : Str)) = false) : SIF X T ca xa cx G0 H0 W tg (.Call (.Name "reversed" p) [.Name x px] [] pos) fun env => (match env[i]? with
    | some (.val (.lst ds)) => .ok ds.reverse
    | some (.pk ds) => .ok ds.reverse
    | _ => .bad) :=
  (pi_reversed hg hm (pa_cons (pe_var (pos := px) hN hv hd hcd) pa_nil rfl) rfl).imp fun σ H R ⟨G, env, rel, q⟩ => by
    dsimp only at q
    cases e : env[i]? with
    | none => rw [e] at q; exact q.elim
    | some s =>
      have sl := rel.sl i s e
      rw [e] at q
      cases s with
      | val d =>
        obtain ⟨v, e2, r⟩ := sl
        cases r with
        | lst h r2 => exact ⟨_, e2, _, _, rfl, SqL.of (rel.gh _ _ h), q _ _ _ (Step.refl rel.gh) fun i G2 H2 s1 s2 s3 => itv_ok (P := PX X T ca xa) (SqL.of (s2 _ _ (s1 _ _ h))) (r2.mono s1)⟩
        | _ => exact q.elim
      | pk ds =>
        obtain ⟨a, vs, e2, h1, r⟩ := sl
        exact ⟨_, e2, a, vs, rfl, (rel.hk.trans rel.hh).seq h1, q _ _ _ (Step.refl rel.gh) fun i G2 H2 s1 s2 s3 => itv_ok (P := PX X T ca xa) (s3.seq h1) (r.mono s1)⟩
      | _ => exact q.elim
theorem sic_rev (hg : Gl X "reversed") (hm : X.mg "reversed" = none) (ha : SP' X T ca xa cx G0 H0 W a fa) (hs : noStar a = true) : SIC X T ca xa cx G0 H0 W tg (.Call (.Name "reversed" p) [a] [] pos) fun env => (fa env).bind fun x => (match x with
    | .lst ds => .ok ds.reverse
    | _ => .bad) :=
  (pi_reversed hg hm (pa_cons ha pa_nil (star_cons hs)) (star_cons (es := []) hs)).imp fun σ H R ⟨G, env, rel, q⟩ => ⟨G, env, rel, Post.bind anti_C q fun d x H1 G1 s r q1 => by
    rcases r with r | ⟨a, vs, ds, rfl, rfl, h, r⟩
    · cases r with
      | lst h r2 => exact ⟨_, _, rfl, SqL.of (s.gh _ _ h), q1 _ _ _ (Step.refl s.gh) fun i G2 H2 st => itv_ok (P := PX X T ca xa) (SqL.of (st.hh _ _ (s.gh _ _ h))) (r2.mono st.gg)⟩
      | _ => exact False.elim q1
    · exact ⟨a, vs, rfl, h, q1 _ _ _ (Step.refl s.gh) fun i G2 H2 st => itv_ok (P := PX X T ca xa) (st.hh.seq h) (r.mono st.gg)⟩⟩

/-! ### for -/
/-- the ground moved on: what stands still now, or stood at the start -/
def H1of (G1 H0 : Hp) : Hp := fun a => match G1 a with
  | some o => some o
  | none => H0 a
theorem h1of_none {G1 H0 : Hp} {a : Addr} (h : H1of G1 H0 a = none) : G1 a = none ∧ H0 a = none := by
  unfold H1of at h
  cases e : G1 a with
  | none => rw [e] at h; exact ⟨rfl, h⟩
  | some o => rw [e] at h; cases h
theorem h1of_of {G1 H0 : Hp} {a : Addr} (h1 : G1 a = none) (h2 : H0 a = none) : H1of G1 H0 a = none := by
  unfold H1of
  rw [h1]
  exact h2
theorem h1of_same {G1 H0 H : Hp} (g : Same G1 H) (h : Same H0 H) : Same H0 (H1of G1 H0) ∧ Same (H1of G1 H0) H ∧ Same G1 (H1of G1 H0) := by
  refine ⟨fun a o e => ?_, fun a o e => ?_, fun a o e => ?_⟩
  · unfold H1of
    cases q : G1 a with
    | none => exact e
    | some o' =>
      have e1 := g _ _ q
      have e2 := h _ _ e
      rw [e1] at e2
      cases e2
      rfl
  · unfold H1of at e
    cases q : G1 a with
    | none => rw [q] at e; exact h _ _ e
    | some o' =>
      rw [q] at e
      cases e
      exact g _ _ q
  · unfold H1of
    rw [e]
theorem Rel.fwd {P : Par} {G H : Hp} {σ : St} {env : Env} (r : Rel P cx G0 H0 G H σ env) : Rel P cx G (H1of G H0) G H σ env := by
  obtain ⟨s1, s2, s3⟩ := h1of_same r.gh r.hh
  refine ⟨r.hk.trans s1, s2, Same.refl _, r.gh, fun _ _ => rfl, r.len, fun i s e => ?_, r.dis⟩
  have q := r.sl i s e
  cases s with
  | own ds => obtain ⟨p, vs, e3, k1, k2, k3, k4⟩ := q; exact ⟨p, vs, e3, k1, k2, h1of_of k2 k3, k4⟩
  | obj c ds => obtain ⟨x, dx, fs, vs, ci, e3, k1, k2, k3, k4⟩ := q; exact ⟨x, dx, fs, vs, ci, e3, k1, k2, h1of_of k2 k3, k4⟩
  | dp w => obtain ⟨x, e3, k⟩ := q; exact ⟨x, e3, k.r, k.nd, k.g, fun a ha => h1of_of (k.g a ha) (k.h0 a ha)⟩
  | _ => exact q
theorem Rel.back {P : Par} {G1 H1 G H : Hp} {σ1 σ : St} {env1 env : Env} (r1 : Rel P cx G0 H0 G1 H1 σ1 env1) (r : Rel P cx G1 (H1of G1 H0) G H σ env) : Rel P cx G0 H0 G H σ env := by
  obtain ⟨s1, s2, s3⟩ := h1of_same r1.gh r1.hh
  refine ⟨r1.hk, s1.trans r.hh, r1.gg.trans r.gg, r.gh, fun a ha => (r.nw a (s1.ne ha)).trans (r1.nw a ha), r.len, fun i s e => ?_, r.dis⟩
  have q := r.sl i s e
  cases s with
  | own ds => obtain ⟨p, vs, e3, k1, k2, k3, k4⟩ := q; exact ⟨p, vs, e3, k1, k2, (h1of_none k3).2, k4⟩
  | obj c ds => obtain ⟨x, dx, fs, vs, ci, e3, k1, k2, k3, k4⟩ := q; exact ⟨x, dx, fs, vs, ci, e3, k1, k2, (h1of_none k3).2, k4⟩
  | dp w => obtain ⟨x, e3, k⟩ := q; exact ⟨x, e3, k.r, k.nd, k.g, fun a ha => (h1of_none (k.h0 a ha)).2⟩
  | _ => exact q
theorem OutP.fwd {P : Par} {G1 H1 : Hp} {σ1 : St} {env1 : Env} {D D' : Ends} {o : Out} (r1 : Rel P cx G0 H0 G1 H1 σ1 env1) (h : OutP P cx G0 H0 W D o) (hr : ∀ v H, D.rt v H → D'.rt v H) (hn : ∀ e, o = .nx e → ∀ σ H G, Rel P cx G1 (H1of G1 H0) G H σ e → D'.nx σ H) (hc : ∀ e, o = .ct e → ∀ σ H G, Rel P cx G1 (H1of G1 H0) G H σ e → D'.ct σ H) : OutP P cx G1 (H1of G1 H0) W D' o := by
  cases o with
  | nx e => exact hn e rfl
  | ct e => exact hc e rfl
  | ret r =>
    intro v H G s rv
    obtain ⟨s1, s2, s3⟩ := h1of_same r1.gh r1.hh
    refine hr _ _ (h v H G ⟨s1.trans s.hh, r1.gg.trans s.gg, s.gh, fun a ha => (s.nw a (s1.ne ha)).trans (r1.nw a ha)⟩ (anti_RV _ _ _ _ _ _ s1 rv))
  | err k fs e => exact fun cls d σ H G r er => h cls d σ H G (r1.back r) er
  | bad => exact h
  | rtd o =>
    intro v H G s rv
    obtain ⟨s1, s2, s3⟩ := h1of_same r1.gh r1.hh
    exact hr _ _ (h v H G ⟨s1.trans s.hh, r1.gg.trans s.gg, s.gh, fun a ha => (s.nw a (s1.ne ha)).trans (r1.nw a ha)⟩ ⟨rv.r, rv.nd, rv.g, fun a ha => s1.free (rv.h0 a ha)⟩)
theorem ss_for {tg' : Tg} {iter : Expr} {bs : List Stmt} {fi : Env → Res (List D)} {fb : Env → Out} {stb : Str → Bool} (hp : PassesOwn (model X.prog X.w) X.A X.env X.xe) (hc : X.calm = true) (hst : StB X stb) (hN : X.N.Nodup) (hi : SIF X T ca xa cx G0 H0 W tg iter fi) (ht : tgB X.N stb tg tg' = true) (hb : ∀ G0 H0, SSs X T ca xa cx G0 H0 W bs fb) (hs : noSet iter = true) :
    SS X T ca xa cx G0 H0 W (.For tg iter bs [] pos) fun env => (fi (frz fr env)).to (frz fr env) fun ds => forLoop tg' fb ds (frz fr env) := by
  refine ⟨fun pins s σ H D I h => ?_⟩
  obtain ⟨G, env, rel, p⟩ := h
  obtain ⟨G', sg, rel'⟩ := rel.frz fr
  -- the source is walked first; its ground is chosen behind it
  refine (ps_for hp hc hi (pg_tg hst hc hN ht) (tb := fun D σ H => ∃ G0 H0, sR (PX X T ca xa) cx G0 H0 W fb D σ H) ⟨fun pins s σ H D I h => by
    obtain ⟨G0, H0, h⟩ := h
    exact (hb G0 H0).run pins s σ H D I h⟩ (folded_ok hs)).run pins s σ H D I ?_
  refine ⟨G', _, rel', to_bind rel' p fun ds J H1 G1 st r q => ?_⟩
  have rel1 := rel'.step st
  refine ⟨fun i m σ H => m = ds.length - i ∧ i ≤ ds.length ∧ ∃ G env, Rel (PX X T ca xa) cx G1 (H1of G1 H0) G H σ env ∧ OutP (PX X T ca xa) cx G0 H0 W D (forLoop tg' fb (ds.drop i) env), ⟨ds.length, by simp, Nat.zero_le _, G1, _, rel1.fwd, by rw [List.drop_zero]; exact q⟩, ?_⟩
  rintro i m σ H ⟨rfl, hi, G, env, rel, q⟩
  have ok := r i G H rel.gg rel.gh (rel.hk.trans rel.hh)
  by_cases hlt : i < ds.length
  · refine .inr ?_
    have ed : ds[i]? = some ds[i] := List.getElem?_eq_getElem hlt
    obtain ⟨g1, g2⟩ := ok.1 _ ed
    rw [List.drop_eq_getElem_cons hlt] at q
    simp only [forLoop] at q
    cases e : setT tg' ds[i] env with
    | none => simp only [e] at q; exact False.elim q
    | some e1 =>
      simp only [e] at q
      refine ⟨g1, fun σ H => ∃ G env, Rel (PX X T ca xa) cx G1 (H1of G1 H0) G H σ env ∧ OutP (PX X T ca xa) cx G0 H0 W D (forLoop tg' fb (ds.drop (i + 1)) env), fun σ' H' h => ⟨ds.length - (i + 1), by omega, rfl, hlt, h⟩, fun x Hx y => ?_⟩
      obtain ⟨eh, rx⟩ := g2 x Hx y
      subst eh
      refine setT_ok (P := PX X T ca xa) rel rx e fun σ' _ r' => ⟨G1, H1of G1 H0, G, e1, r', ?_⟩
      cases eb : fb e1 with
      | nx e2 => rw [eb] at q; exact fun σ2 H2 G2 r2 => ⟨G2, e2, r2, q⟩
      | ct e2 => rw [eb] at q; exact fun σ2 H2 G2 r2 => ⟨G2, e2, r2, q⟩
      | ret v => rw [eb] at q; exact OutP.fwd rel1 q (fun _ _ h => h) (fun _ z => nomatch z) (fun _ z => nomatch z)
      | err k fs e2 => rw [eb] at q; exact OutP.fwd rel1 q (fun _ _ h => h) (fun _ z => nomatch z) (fun _ z => nomatch z)
      | bad => rw [eb] at q; exact False.elim q
      | rtd o => rw [eb] at q; exact OutP.fwd rel1 q (fun _ _ h => h) (fun _ z => nomatch z) (fun _ z => nomatch z)
  · have e : i = ds.length := by omega
    subst e
    rw [List.drop_length] at q
    exact .inl ⟨ok.2 (Nat.le_refl _), q _ _ _ (rel1.back rel)⟩
end
end PL

set_option linter.all false
set_option Elab.async false
set_option maxRecDepth 100000
set_option maxHeartbeats 1000000
/-! Soundness, part 11: list comprehensions. -/
namespace PL
open PySem PySem.Spec PyProof.Rows L2
theorem Step.upd {G H G1 H1 : Hp} {p : Addr} {o : HO} (s : Step G H G1 H1) (h : H p = none) (g : G1 p = none) : Step G H G1 (upd H1 p o) :=
  ⟨fun a u e => by rw [upd_ne (ne_of_none e h)]; exact s.hh _ _ e, s.gg, fun a u e => by rw [upd_ne (ne_of_none e g)]; exact s.gh _ _ e, s.nw⟩
theorem wipe_get {σ : St} {j : Nat} : ∀ {vs : List Nat}, j ∉ vs → (wipe σ vs)[j]? = σ[j]?
  | [], _ => rfl
  | v :: vs, h => by
    simp only [List.mem_cons, not_or] at h
    unfold wipe
    rw [List.getElem?_set_ne (Ne.symm h.1), wipe_get h.2]
theorem wipeE_length (env : Env) : ∀ vs : List Nat, (wipeE env vs).length = env.length
  | [] => rfl
  | v :: vs => by unfold wipeE; rw [List.length_set, wipeE_length env vs]
theorem wipeE_get {env : Env} {j : Nat} : ∀ {vs : List Nat}, j ∉ vs → (wipeE env vs)[j]? = env[j]?
  | [], _ => rfl
  | v :: vs, h => by
    simp only [List.mem_cons, not_or] at h
    unfold wipeE
    rw [List.getElem?_set_ne (Ne.symm h.1), wipeE_get h.2]
theorem wipeE_in {env : Env} {j : Nat} {s : Sl} : ∀ {vs : List Nat}, j ∈ vs → (wipeE env vs)[j]? = some s → s = .no
  | [], h, _ => by simp at h
  | v :: vs, h, e => by
    unfold wipeE at e
    by_cases q : v = j
    · subst q
      by_cases hl : v < (wipeE env vs).length
      · rw [List.getElem?_set_self hl] at e; cases e; rfl
      · rw [List.getElem?_eq_none (by rw [List.length_set]; omega)] at e; cases e
    · rw [List.getElem?_set_ne q] at e
      exact wipeE_in (by simpa [Ne.symm q] using h) e
theorem wipe_idem {σ : St} : ∀ {vs us : List Nat}, (∀ i ∈ us, i ∈ vs) → wipe (wipe σ us) vs = wipe σ vs
  | vs, [], _ => rfl
  | vs, u :: us, h => by
    rw [show wipe σ (u :: us) = (wipe σ us).set u none from rfl, wipe_set (h u List.mem_cons_self)]
    exact wipe_idem fun i hi => h i (List.mem_cons_of_mem _ hi)
section
variable {X : Cx} {T : Tab} {ca xa : Nat → Addr} {cx : Hand} {G0 H0 : Hp} {W : WX} {a b c d e o : Expr} {fa fb fc fd : Env → Res D} {f g : Env → Res Vl} {pos p : Pos} {fr : List Nat} {tg : Expr}
theorem Rel.wipe {P : Par} {G H : Hp} {σ : St} {env : Env} (rel : Rel P cx G0 H0 G H σ env) (own : List Nat) : Rel P cx G0 H0 G H (wipe σ own) (wipeE env own) := by
  have old : ∀ {j : Nat} {s : Sl}, (wipeE env own)[j]? = some s → s = .no ∨ (env[j]? = some s ∧ (L2.wipe σ own)[j]? = σ[j]?) := fun {j s} e => by
    by_cases q : j ∈ own
    · exact .inl (wipeE_in q e)
    · rw [wipeE_get q] at e
      exact .inr ⟨e, wipe_get q⟩
  refine ⟨rel.hk, rel.hh, rel.gg, rel.gh, rel.nw, by rw [wipe_length, wipeE_length]; exact rel.len, fun j s e => ?_, fun j k s t p ej ek hs ht => ?_⟩
  · rcases old e with q | ⟨q1, q2⟩
    · subst q; trivial
    · rw [q2]; exact rel.sl j s q1
  · rcases old ej with q | ⟨q1, q2⟩
    · subst q; exact False.elim hs
    · rcases old ek with q' | ⟨q3, q4⟩
      · subst q'; exact False.elim ht
      · rw [q2] at hs
        rw [q4] at ht
        exact rel.dis j k s t p q1 q3 hs ht
/-- what is wished of errors where none may come -/
def W0 : WX := fun _ _ _ _ => False
def turnD (tg' : Tg) (own : List Nat) (env : Env) (ft : Env → Res Bool) (fe : Env → Res Vl) (d : D) : Res (Option D) := match setT tg' d (wipeE env own) with
  | none => .bad
  | some e1 => (ft e1).bind fun k => if k = true then (fe e1).bind fun x => .ok (some x.d) else .ok none
theorem lc_ok {P : Par} {tg' : Tg} {own : List Nat} {fi : Env → Res (List D)} {ft : Env → Res Bool} {fe : Env → Res Vl} {σ : St} {H G : Hp} {env : Env} {Q : VK} (hown : ∀ i ∈ tgIx tg', i ∈ own) (rel : Rel P cx G0 H0 G H σ env)
    (p : Post P W σ G H (RV P) ((fi env).bind fun ds => compLoop (turnD tg' own env ft fe) ds []) Q) : tLc (tR P cx G0 H0 W (RItC P) fi) (gT P.K tg') (tR P cx G0 H0 W0 RB ft) (tR P cx G0 H0 W0 (RV P) fe) own σ H Q := by
  refine ⟨G, env, rel, Post.bind anti_RV p fun ds J H1 G1 st r q => ?_⟩
  intro D hD
  have rel1 := rel.step st
  have gD : G1 D = none := st.gh.free hD
  refine ⟨fun i m H => m = ds.length - i ∧ i ≤ ds.length ∧ ∃ G vs acc, Step G1 H1 G H ∧ H D = some (.lst vs) ∧ G D = none ∧ Reps P G vs acc ∧ Post P W σ G1 H1 (RV P) (compLoop (turnD tg' own env ft fe) (ds.drop i) acc) Q,
    ⟨ds.length, by simp, Nat.zero_le _, G1, [], [], Step.mine st.gh hD, upd_same, gD, .nil, by rw [List.drop_zero]; exact q⟩, ?_⟩
  rintro i m H ⟨rfl, hi, G, vs, acc, s2, hv, gn, ra, q⟩
  have ok := r i G H s2
  by_cases hlt : i < ds.length
  · refine .inr ?_
    have ed : ds[i]? = some ds[i] := List.getElem?_eq_getElem hlt
    obtain ⟨g1, g2⟩ := ok.1 _ ed
    rw [List.drop_eq_getElem_cons hlt] at q
    simp only [compLoop] at q
    refine ⟨g1, fun H => ∃ G vs acc, Step G1 H1 G H ∧ H D = some (.lst vs) ∧ G D = none ∧ Reps P G vs acc ∧ Post P W σ G1 H1 (RV P) (compLoop (turnD tg' own env ft fe) (ds.drop (i + 1)) acc) Q, fun H' h => ⟨ds.length - (i + 1), by omega, rfl, hlt, h⟩, fun x Hx y => ?_⟩
    obtain ⟨eh, rx⟩ := g2 x Hx y
    subst eh
    unfold turnD at q
    cases e : setT tg' ds[i] (wipeE env own) with
    | none => simp only [e] at q; exact False.elim q
    | some e1 =>
      simp only [e] at q
      refine setT_ok (P := P) ((rel1.step s2).wipe own) rx e fun σ' hw r' => ⟨(hw own hown).trans (wipe_idem fun _ h => h), G, e1, r', ?_⟩
      cases et : ft e1 with
      | bad => rw [et] at q; exact False.elim q
      | err k fs => rw [et] at q; exact False.elim q
      | ok k =>
        rw [et] at q
        intro b H3 G3 s3 rb
        have rb : b = k := rb
        subst rb
        have s23 := s2.trans s3
        have hD3 : H3 D = some (.lst vs) := s3.hh _ _ hv
        have gD3 : G3 D = none := (s3.nw D (by rw [hv]; simp)).trans gn
        cases b with
        | false => rw [if_neg Bool.false_ne_true]; exact ⟨G3, vs, acc, s23, hD3, gD3, ra.mono s3.gg, q⟩
        | true =>
          rw [if_pos rfl]
          refine ⟨G3, e1, r'.step s3, ?_⟩
          cases ee : fe e1 with
          | bad => simp only [ee, Res.bind_ok, if_true, Res.bind_bad] at q; exact False.elim q
          | err k fs => simp only [ee, Res.bind_ok, if_true, Res.bind_err] at q; exact False.elim q
          | ok z =>
            simp only [ee, Res.bind_ok, if_true] at q
            intro y4 H4 G4 s4 ry
            obtain ⟨G5, s5, g5, rr⟩ := RV.still ry s4
            have hD4 : H4 D = some (.lst vs) := s4.hh _ _ hD3
            have gD5 : G5 D = none := (s5.nw D (by rw [hD3]; simp)).trans gD3
            split at q
            · rename_i hz
              have hlen := ra.length
              exact ⟨vs, hD4, by rw [hlen, sizeLine_eq]; exact hz, G5, vs ++ [y4], acc ++ [z.d], (s23.trans s5).upd hD gD5, upd_same, gD5, (ra.mono (s3.gg.trans s5.gg)).append (.cons rr .nil), q⟩
            · exact False.elim q
  · have e : i = ds.length := by omega
    subst e
    rw [List.drop_length] at q
    exact .inl ⟨ok.2 (Nat.le_refl _), q (.ref D) H G s2 ⟨D, vs, rfl, hv, gn, hD, ra⟩⟩
/-- what is asked of the block's parts -/
structure BlkT (X : Cx) (T : Tab) (ca xa : Nat → Addr) (cx : Hand) (G0 H0 : Hp) (scope : Scope) (tg : Expr) (tg' : Tg) (ifs : List Expr) (elt : Expr) (ft : Env → Res Bool) (fe : Env → Res Vl) : Prop where
  hg : ∀ (s : Shared) (H : Hp) (C : Addr) (cl : List (Str × Addr)) (fp : List Addr), PG (X.blk s H scope (compEnvC scope cl C X.env) fp) tg (gT X.K tg')
  ht : ∀ (s : Shared) (H : Hp) (C : Addr) (cl : List (Str × Addr)) (fp : List Addr), PTs (X.blk s H scope (compEnvC scope cl C X.env) fp) ifs (tR (PX X T ca xa) cx G0 H0 W0 RB ft)
  he : ∀ (s : Shared) (H : Hp) (C : Addr) (cl : List (Str × Addr)) (fp : List Addr), PE (X.blk s H scope (compEnvC scope cl C X.env) fp) elt (tR (PX X T ca xa) cx G0 H0 W0 (RV (PX X T ca xa)) fe)
theorem s_comp {tg' : Tg} {iter elt : Expr} {ifs : List Expr} {scope : Scope} {own : List (Str × Nat)} {fi : Env → Res (List D)} {ft : Env → Res Bool} {fe : Env → Res Vl} (hc : X.calm = true) (hN : X.N.Nodup) (hi : SIC X T ca xa cx G0 H0 W tg iter fi) (ok : BlkOk X.N X.env.scope scope own) (B : BlkT X T ca xa cx G0 H0 scope tg tg' ifs elt ft fe) (hs : noSet iter = true) (hown : ∀ i ∈ tgIx tg', i ∈ own.map (·.2)) :
    SE X T ca xa cx G0 H0 W (.ListComp elt [⟨tg, iter, ifs, 0⟩] scope pos) fun env => (fi env).bind fun ds => compLoop (turnD tg' (own.map (·.2)) env ft fe) ds [] :=
  (pe_lc hc hN hi ok B.hg B.ht B.he (folded_ok hs)).imp fun σ H Q ⟨G, env, rel, p⟩ => lc_ok hown rel p
theorem ss_setLc {i : Nat} {x : Str} {p1 : Pos} {tg' : Tg} {iter elt : Expr} {ifs : List Expr} {scope : Scope} {own : List (Str × Nat)} {fi : Env → Res (List D)} {ft : Env → Res Bool} {fe : Env → Res Vl} {p2 : Pos} (hc : X.calm = true) (hN : X.N.Nodup) (hy : X.N[i]? = some x) (hyl : X.env.scope.names.lookup x = some .local) (hk : X.env.scope.kind = .function) (hl : (p1.line == p2.line) = true) (ha : (scope.names.any fun (n, k) => n == x && (k == .local || k == .cell)) = false)
    (hi : SIC X T ca xa cx G0 H0 W tg iter fi) (ok : BlkOk X.N X.env.scope scope own) (B : BlkT X T ca xa cx G0 H0 scope tg tg' ifs elt ft fe) (hs : noSet iter = true) (hown : ∀ i ∈ tgIx tg', i ∈ own.map (·.2)) :
    SS X T ca xa cx G0 H0 W (.Assign [.Name x p1] (.ListComp elt [⟨tg, iter, ifs, 0⟩] scope p2) pos) fun env => ((fi (frz fr env)).bind fun ds => compLoop (turnD tg' (own.map (·.2)) (frz fr env) ft fe) ds []).to (frz fr env) fun x => .nx ((frz fr env).set i x.sl) :=
  (ps_setLc hc hN hy hyl (sw_true hk hyl hl ha) hi ok B.hg B.ht B.he (folded_ok hs)).imp fun D σ H ⟨G, env, rel, p⟩ => by
    obtain ⟨G', s, rel'⟩ := rel.frz fr
    exact lc_ok hown rel' (to_bind rel' p fun a v H1 G1 st r q => q _ _ _ (rel'.put st r))
end
end PL

set_option linter.all false
set_option Elab.async false
set_option maxRecDepth 100000
set_option maxHeartbeats 1000000
/-! Soundness, part 12: raise, try. -/
namespace PL
open PySem PySem.Spec PyProof.Rows L2
/-! ### exceptions made, their context None -/
section
variable {X : Cx}
/-- C(e), of an own class without an __init__ -/
theorem pmk_own1N {C : Addr} {bmB : List Value} {B newId initId : String} {x : Str} {e : Expr} {ta : TE} {p pos : Pos} (F : ExcBaseFacts B newId initId bmB) (q : PySem.W.excIn X.K C bmB newId = true) (gC : X.mg x = some (.ref C)) (kC : PySem.W.keepIn X.K (.ref C) = true) (r : Raises X (.ref C)) (hg : Gl X x)
    (he : PE X e ta) (hs : starEach [e] X.env = (false, eval e X.env) :: starEach [] X.env) (hdb : (x == ("__debug__" : Str)) = false) :
    L2N.PMk X (.Call (.Name x p) [e] [] pos) (fun σ H Q => ta σ H fun _ H1 => Q (.ref C) none H1) := by
  intro pins s σ H Q I h
  refine wpAny_Call_Name_kw (ld_glob I hg gC (PySem.W.callWith_K (h₀ := X.base) I.ok.mod.kin kC ?_ hs (by rfl)) hdb)
  rw [hs]
  refine Calls.spliced_cons (thn (he.run pins s σ H _ I h) fun u s1 ⟨v, H1, I1, _, q1⟩ => Calls.spliced_nil ⟨I1.kIn, ?_⟩)
  obtain ⟨_, _, _, _, _, _, _, _, _, _, _, _, _, _, _, _, _, hC, hN, hni, T⟩ := exc_obj I1.kIn q
  exact wpAny_call_exc_subT F T hC hN hni (fun h' e hm => L2N.mk_of I1 hm r q1 (I1.hok.gone hm.new)) (by show 1 ≤ sizeLine; rw [sizeLine_eq]; omega)
/-- C(e, ..), of an own class with an __init__ of its own -/
theorem pmk_oexN {CX : CXT} {x : Str} {C fI : Addr} {k : Nat} {fd : FuncData} {ps : List Str} {sp : Sp} {e : Expr} {es : List Expr} {ta : TA} {p pos : Pos} (T : OexC X.K C) (iC : PySem.W.findIn X.K (.ref C) "__init__" = some (some (.ref fI))) (tI : PySem.W.typeIn X.K (.ref fI) = some (.type "function"))
    (F1 : FnOk X.prog X.w X.K X.mg X.base CX k fI fd ps sp) (hr : Room (k + 1) X.A) (hb : Binds X.K fd ps []) (hx : Passes CX X (fun _ _ _ => False)) (hg : Gl X x) (hm : X.mg x = some (.ref C)) (ha : PA X (e :: es) ta)
    (hdb : (x == ("__debug__" : Str)) = false) (he : starEach (e :: es) X.env = (false, eval e X.env) :: starEach es X.env) (hpl : (backTo pos (starEach es X.env)).any (·.1) = false) :
    L2N.PMk X (.Call (.Name x p) (e :: es) [] pos) (tMkO C sp [] ta) := by
  intro pins s σ H Q I h
  obtain ⟨_, _, _, _, bm, _, _, _, _, _, _, _, _, _, _, hC, hbm⟩ := T.cls
  refine wpAny_Call_Name_kw (ld_glob I hg hm (PySem.W.callWith_K (h₀ := X.base) I.ok.mod.kin T.kC (thn (ha.run pos pins s σ H _ I h) fun us s1 ⟨vs, H1, I1, r1, hz, q1⟩ => ⟨I1.kIn, ?_⟩) he hpl) hdb)
  show wpAny _ _ (call (.ref C) us) _ _ _
  obtain ⟨hp, g, dr, tk, os⟩ := s1
  have up : hp.objs.size ≤ hp.objs.size + 1 := Nat.le_succ _
  have q2 := q1 (hp.objs.size + 1) (I1.hok.fresh up)
  rw [List.append_nil] at q2
  have keep : ∀ b o, hp.get? b = some o → ((hp.push (PySem.W.kdv_tup us)).push (PySem.HandSPX.excO C hp.objs.size)).get? b = some o := fun b o z => Heap.get?_push_of_some _ (Heap.get?_push_of_some _ z)
  have I2 : Inv X pins σ (upd H1 (hp.objs.size + 1) (exo (hp.objs.size + 1) C none)) ⟨(hp.push (PySem.W.kdv_tup us)).push (PySem.HandSPX.excO C hp.objs.size), g, dr, tk, os⟩ :=
    I1.laid (t' := tk) keep up (exo_ok (by heap_get))
  have r2 : Vals (V.ref (hp.objs.size + 1) :: vs) (Value.ref (hp.objs.size + 1) :: us) := .cons rfl r1
  have hl : ((Value.ref (hp.objs.size + 1) :: us) ++ []).length = ps.length := by
    have z := r2.length
    rw [F1.len _ _ _ _ q2] at z
    rw [List.append_nil]
    exact z.symm
  have hbb := hb ⟨(hp.push (PySem.W.kdv_tup us)).push (PySem.HandSPX.excO C hp.objs.size), g, dr, tk, os⟩ (Value.ref (hp.objs.size + 1) :: us) I2.kIn hl
  rw [List.append_nil] at hbb
  have hus : us.length ≤ sizeLine := by
    rw [← Paired.length r1, sizeLine_eq]
    omega
  refine wpAny_call (PySem.HandSPX.call_own F.excBase_ValueError (fun Y => PySem.HandSPX.refsVE_contains Y bm hbm) (I1.kIn _ _ hC) (PySem.W.looks_findIn I1.kIn iC) (fun self => PySem.W.bind_fn I1.kIn self tI) hus
    (codeAny_mono (F1.run _ X.stack _ _ ⟨Value.ref (hp.objs.size + 1) :: us, []⟩ (Value.ref (hp.objs.size + 1) :: us) _ _ (fun _ _ _ => False) (hr.make C us []) (I2.env0.make C us []) hbb r2 q2) fun r s' hq => ?_))
  cases r with
  | error er => exact hx pins σ _ _ er s' I2 hq
  | ok fl =>
    cases fl with
    | ret u =>
      obtain ⟨v, H2, os2, bare2, un2, hok2, rv, rfl, d, fs, ea, ed, hd1, q3⟩ := hq
      obtain ⟨h2, g2, d2, t2, os'⟩ := s'
      obtain ⟨t0, G, J, kG, ge, hoe, na⟩ := mk_end0 (d2 := d2) (t2 := t2) I1 up keep un2 hok2 os2 bare2 ea ed hd1
      exact ⟨rv, hp.objs.size + 1, _, _, ⟨G, g2, d2, t2, os'⟩, _, .ref C, some d, rfl, J, kG, ge, hoe, ⟨rfl, rfl, fun vs z => by cases z; rfl⟩, rfl, rfl, na, rfl, bare2, raises_own T.exC T.tyC, q3⟩
    | _ => exact False.elim hq
end
section
variable {X : Cx} {T : Tab} {ca xa : Nat → Addr} {cx : Hand} {G0 H0 : Hp} {W : WX} {a b c d e o : Expr} {fa fb fc fd : Env → Res D} {f g : Env → Res Vl} {pos p : Pos} {fr : List Nat} {tg : Expr}
/-! ### raise -/
/-- a class without fields -/
structure Xo (X : Cx) (T : Tab) (xa : Nat → Addr) (k : Nat) (nm : Str) : Prop where
  at_ : ∃ xi, T.exs[k]? = some xi ∧ xi.fields = []
  q : PySem.W.excIn X.K (xa k) He.veBase "ValueError.__new__" = true
  g : X.mg nm = some (.ref (xa k))
  kp : PySem.W.keepIn X.K (.ref (xa k)) = true
  r : Raises X (.ref (xa k))
theorem ss_rais0 {k : Nat} {nm : Str} {p1 p2 : Pos} (hc : X.calm = true) (tk : L2N.Takes X W) (O : Xo X T xa k nm) (hg : Gl X nm) (hdb : (nm == ("__debug__" : Str)) = false) (he : SE X T ca xa cx G0 H0 W e f) (hs : noStar e = true) :
    SS X T ca xa cx G0 H0 W (.Raise (some (.Call (.Name nm p1) [e] [] p2)) none pos) fun env => ((f env).bind fun x => (Res.ok []).bind fun ds => .ok (x.d :: ds)).to env fun ds => .err k ds env :=
  (L2N.ps_raise hc tk (pmk_own1N (p := p1) (pos := p2) PySem.F.excBase_ValueError O.q O.g O.kp O.r hg he (star_cons hs) hdb)).imp fun D σ H ⟨G, env, rel, q⟩ => by
    obtain ⟨xi, h1, h2⟩ := O.at_
    refine ⟨G, env, rel, ?_⟩
    cases ee : f env with
    | bad => simp only [ee, Res.bind_bad, Res.to_bad] at q; exact False.elim q
    | err k' fs => simp only [ee, Res.bind_err, Res.to_err] at q; exact fun cls d H' G' s er => q cls d σ H' G' (rel.step s) er
    | ok x =>
      simp only [ee, Res.bind_ok, Res.to_ok] at q
      exact fun v H' G' s r => q _ none σ H' G' (rel.step s) ⟨xi, h1, rfl, .inl h2⟩
/-! a class with fields: what its __init__ does -/
def xfv (fields : List Str) (vs : List V) : List (Str × V) := (fields.zip vs).reverse
theorem xfv_look : ∀ {fields : List Str} {vs : List V} {j : Nat} {n : Str} {v : V}, fields.Nodup → fields[j]? = some n → vs[j]? = some v → (xfv fields vs).lookup n = some v := by
  have app : ∀ (l r : List (Str × V)) (n : Str), (l ++ r).lookup n = (match l.lookup n with
    | some v => some v
    | none => r.lookup n) := by
    intro l
    induction l with
    | nil => intro r n; rfl
    | cons a l ih =>
      intro r n
      obtain ⟨m, w⟩ := a
      simp only [List.cons_append, List.lookup]
      cases n == m with
      | true => rfl
      | false => exact ih r n
  intro fields
  induction fields with
  | nil => intro vs j n v _ h; simp at h
  | cons g gs ih =>
    intro vs j n v nd h1 h2
    cases vs with
    | nil => simp at h2
    | cons w ws =>
      have nd2 := List.nodup_cons.mp nd
      unfold xfv
      rw [List.zip_cons_cons, List.reverse_cons, app]
      cases j with
      | zero =>
        simp at h1 h2
        subst h1
        subst h2
        have hn : ((gs.zip ws).reverse).lookup g = none := by
          rw [List.lookup_eq_none_iff]
          intro q hq
          have := List.mem_reverse.mp hq
          have := (List.of_mem_zip this).1
          simp only [bne_iff_ne, ne_eq, Bool.not_eq_true, beq_eq_false_iff_ne]
          intro z
          exact nd2.1 (z ▸ this)
        rw [hn]
        simp [List.lookup]
      | succ j =>
        have := ih (vs := ws) (j := j) (n := n) (v := v) nd2.2 (by simpa using h1) (by simpa using h2)
        unfold xfv at this
        rw [this]
/-- its promise -/
def spX (C : Addr) (fields : List Str) (n : Nat) : Sp := fun vs H Q _ => fields.length + 1 = n ∧ ∃ a ws, vs = .ref a :: ws ∧ ws.length = fields.length ∧ H a = some (exo a C none) ∧ ∀ dx, H dx = none → dx ≠ a → Q .non (upd (upd H dx (exd dx (xfv fields ws))) a (exo a C (some dx)))
theorem spX_len {C : Addr} {fields : List Str} {n : Nat} : ∀ vs H Q E, spX C fields n vs H Q E → vs.length = n := fun vs H Q E ⟨e, a, ws, e1, e2, _⟩ => by
  rw [e1, List.length_cons, e2]
  exact e
structure Xi (X : Cx) (T : Tab) (xa : Nat → Addr) (k : Nat) (nm : Str) (n : Nat) : Prop where
  at_ : ∃ xi lv fI fd ps, T.exs[k]? = some xi ∧ xi.fields.Nodup ∧ xi.fields.length = n ∧ n ≤ 900 ∧ OexC X.K (xa k) ∧ PySem.W.findIn X.K (.ref (xa k)) "__init__" = some (some (.ref fI)) ∧ PySem.W.typeIn X.K (.ref fI) = some (.type "function") ∧
    FnOk X.prog X.w X.K X.mg X.base (L2N.CX X.prog X.w) lv fI fd ps (spX (xa k) xi.fields ps.length) ∧ Room (lv + 1) X.A ∧ Binds X.K fd ps [] ∧ X.mg nm = some (.ref (xa k)) ∧ xi.fields.length + 1 = ps.length
theorem never_passes : ∀ (pins : List (Addr × Obj)) (σ : St) (H : Hp) (s : Shared) (e : Value) (s' : Shared), Inv X pins σ H s → L2N.CX X.prog X.w X.stack H s (fun _ _ _ => False) e s' → X.xe e s' :=
  fun _ _ _ _ _ _ _ ⟨_, _, _, _, _, _, _, _, _, _, _, _, h⟩ => h.elim
theorem ss_raisX {k n : Nat} {nm : Str} {p1 p2 : Pos} {es : List Expr} {h : Env → Res (List D)} (hc : X.calm = true) (tk : L2N.Takes X W) (O : Xi X T xa k nm n) (hg : Gl X nm) (hdb : (nm == ("__debug__" : Str)) = false) (he : SA X T ca xa cx G0 H0 W es h) (hs : es.all noStar = true) (hne : es ≠ []) (hlen : ∀ env ds, h env = .ok ds → ds.length = n) :
    SS X T ca xa cx G0 H0 W (.Raise (some (.Call (.Name nm p1) es [] p2)) none pos) fun env => (h env).to env fun ds => .err k ds env := by
  obtain ⟨xi, lv, fI, fd, ps, h1, h2, h3, h4, h5, h6, h7, h8, h9, h10, h11, h12⟩ := O.at_
  cases es with
  | nil => exact absurd rfl hne
  | cons e es =>
    simp only [List.all_cons, Bool.and_eq_true] at hs
    refine (L2N.ps_raise hc tk (pmk_oexN (p := p1) (pos := p2) h5 h6 h7 h8 h9 h10 never_passes hg h11 he hdb (star_cons hs.1) (star_any hs.2))).imp fun D σ H ⟨G, env, rel, q⟩ => ?_
    refine ⟨G, env, rel, ?_⟩
    have q : OutP (PX X T ca xa) cx G0 H0 W D ((h env).to env fun ds => Out.err k ds env) := q
    cases ee : h env with
    | bad => rw [ee] at q; exact False.elim q
    | err k' fs => rw [ee] at q; exact fun cls d H' G' s er => q cls d σ H' G' (rel.step s) er
    | ok ds =>
      rw [ee] at q
      have q : ∀ cls d σ H G, Rel (PX X T ca xa) cx G0 H0 G H σ env → ErrRep (PX X T ca xa) G H cls d k ds → W cls d σ H := q
      intro vs H1 G1 s r
      have r : Reps _ G1 vs ds := r
      have hl : vs.length = xi.fields.length := by rw [r.length, hlen env ds ee, h3]
      refine ⟨by omega, fun a ha => ⟨h12, a, vs, by rw [List.append_nil], hl, upd_same, fun dx hdx hne => ⟨rfl, dx, xfv xi.fields vs, upd_same, ?_, ?_, ?_⟩⟩⟩
      · rw [upd_ne hne, upd_same]
      · rw [upd_ne hne] at hdx; exact hdx
      · have hdx1 : H1 dx = none := by rw [upd_ne hne] at hdx; exact hdx
        generalize hH : upd (del (upd (upd (upd H1 a (exo a (xa k) none)) dx (exd dx (xfv xi.fields vs))) a (exo a (xa k) (some dx))) a) dx (.xd (xfv xi.fields vs)) = H3
        have hget : ∀ {b : Addr} {o : HO}, H1 b = some o → H3 b = some o := fun {b o} z => by
          have n1 : b ≠ dx := ne_of_none z hdx1
          have n2 : b ≠ a := ne_of_none z ha
          rw [← hH, upd_ne n1, del_ne n2, upd_ne n2, upd_ne n1, upd_ne n2]
          exact z
        have st : Step G1 H1 G1 H3 := ⟨fun b o z => hget z, Same.refl _, fun b o z => hget (s.gh _ _ z), fun _ _ => rfl⟩
        refine q _ _ σ H3 G1 (rel.step (s.trans st)) ⟨xi, h1, rfl, .inr ⟨dx, _, vs, rfl, by rw [← hH, upd_same], r, fun j m v e1 e2 => xfv_look h2 e1 e2⟩⟩

/-! ### try -/
/-- an exception that is in our hands -/
structure Caught (X : Cx) (pins : List (Addr × Obj)) (a : Addr) (cls : Value) (d : Option Addr) (σ : St) (H : Hp) (s : Shared) : Prop where
  ex : ∃ (B : Heap) (sI : Shared), Inv X pins σ H sI ∧ (∀ b o, sI.heap.get? b = some o → b ∉ frs X.stack → B.get? b = some o) ∧ sI.heap.UpToSlots s.heap ∧ HandSPX.FlyingZ B (X.env :: X.outer) a (L2N.Zn cls d) s.heap ∧ s.os = sI.os ∧ AllBare s.gens
  na : H a = none
section
variable {pins : List (Addr × Obj)} {σ : St} {H : Hp} {s : Shared} {x : Addr} {cls : Value} {dd : Option Addr}
theorem Caught.inv (C : Caught X pins x cls dd σ H s) : Inv X pins σ H s := by
  obtain ⟨B, sI, J, nb, up, fl, os, ag⟩ := C.ex
  exact J.landed nb fl.1 up os ag
theorem Caught.obj (C : Caught X pins x cls dd σ H s) (hf : X.env.frame = some X.env.locals) : ∃ oe vs, s.heap.get? x = some oe ∧ L2N.Zn cls dd oe ∧ oe.data = .fields vs ∧ x ≠ X.env.locals ∧ x ∉ X.fs := by
  obtain ⟨B, sI, J, nb, up, fl, os, ag⟩ := C.ex
  obtain ⟨oe, vs, he, hz, hd⟩ := fl.there
  have off : x ∉ frs (X.env :: X.outer) := fun hm => by
    obtain ⟨_, o', e', hnf⟩ := fl.2.2.1.mem hm
    rw [he] at e'
    cases e'
    exact hnf _ hd
  refine ⟨oe, vs, he, hz, hd, fun z => off (List.mem_filterMap.mpr ⟨X.env, List.mem_cons_self, by rw [hf, z]⟩), fun hm => off ?_⟩
  obtain ⟨e, he', q⟩ := List.mem_filterMap.mp hm
  exact List.mem_filterMap.mpr ⟨e, List.mem_cons_of_mem _ he', q⟩
/-- no clause is left -/
theorem Caught.pass {Wout : WX} {pos : Pos} {Q : Flow → Shared → Prop} (C : Caught X pins x cls dd σ H s) (hs : X.stack = X.env :: X.outer) (hf : X.env.frame = some X.env.locals) (tk : L2N.Takes X Wout) (w : Wout cls dd σ H) :
    wpAny (model X.prog X.w) X.A (handleBy (.ref x) X.env []) Q X.xe s := by
  obtain ⟨B, sI, J, nb, up, fl, os, ag⟩ := C.ex
  refine wpAny_handleBy_nil ?_
  obtain ⟨_, _, _, oe, vs, t, _, _, he, _, hd, h1, _⟩ := id fl
  have up1 : wpAny (model X.prog X.w) X.A (setFlight (.ref x) X.env.frame) (fun _ s4 => wpAny (model X.prog X.w) X.A (throw (.ref x) : Sem Flow) Q X.xe s4) X.xe s := by
    rw [hf]
    refine HandSPX.setFlight_upZ fl fun h4 hh4 up4 => wpAny_throw (tk _ _ ⟨x, B, sI, pins, σ, H, cls, dd, rfl, J, nb, up.trans up4, .inr (.inr ?_), C.na, os, ag, w⟩)
    rw [hs]
    exact hh4
  unfold PySem.passOn
  refine wpAny_bind (wpAny_field he hd h1 ?_)
  have nn : ¬ ((Value.ref t == Value.none) = true) := by simp
  rw [if_neg nn]
  first
    | exact wpAny_bind (wpAny_pure (wpAny_bind up1))
    | exact wpAny_bind up1
/-- does the clause's class fit -/
theorem Caught.test {nm : Str} {np : Pos} {c : Value} {b : Bool} {R : Result → Shared → Prop} {pos : Pos} (C : Caught X pins x cls dd σ H s) (hf : X.env.frame = some X.env.locals) (hc : Names X nm c) (hb : PySem.W.exmOne X.K cls c = some b)
    (h : R (.ok (if b then .brk else .next)) s) : codeAny (model X.prog X.w) (X.A.mark (some (.ref x))) (.handlers (.ref x) [.ExceptHandler (some (.Name nm np)) none [] pos] X.env) R s := by
  obtain ⟨oe, vs, he, hz, hd, nl, nf⟩ := C.obj hf
  have LT : PySem.W.Looks (model X.prog X.w) s.heap (typeOf (.ref x)) cls := fun A Q E s' k q => wpAny_typeOf_ref (k _ _ he) (by rw [hz.1]; exact q)
  have fits := PySem.W.exm_one (M := model X.prog X.w) C.inv.kIn LT hb
  have S := C.inv.suite he hd C.na nl nf
  have name : ∀ {Q : Value → Shared → Prop} {E : Value → Shared → Prop}, Q c s → wpAny (model X.prog X.w) (X.A.mark (some (.ref x))) (eval (.Name nm np) X.env) Q E s := fun {Q E} q => by
    obtain ⟨hg, hdb, hm⟩ := hc
    rcases hm with hm | ⟨hm, hv, hn⟩
    · exact ld_glob (X := X.suite x ((x, oe) :: (X.pn ++ pins))) S hg hm q hdb
    · exact ld_blt (X := X.suite x ((x, oe) :: (X.pn ++ pins))) S hg hm hv q hn hdb
  refine codeAny_handlers_test (name (fits.here ?_))
  exact h
/-- the suite begins -/
theorem Caught.enter {P : Unit → Shared → Prop} {E : Value → Shared → Prop} {A : Around} (C : Caught X pins x cls dd σ H s) (h : ∀ s', Caught X pins x cls dd σ H s' → P () s') : wpAny (model X.prog X.w) A (setFlight (.ref x) none) P E s := by
  obtain ⟨B, sI, J, nb, up, fl, os, ag⟩ := C.ex
  exact HandSPX.lands_againZ fl fun h4 fl4 up4 => h _ ⟨⟨B, sI, J, nb, up.trans up4, fl4, os, ag⟩, C.na⟩
end
/-- a clause: its class, the name's slot, what the suite does -/
abbrev Cls3 : Type := Value × Option Nat × (Addr → Value → Option Addr → TS)
def offNx (D : Ends) (i : Nat) : Ends where
  nx := fun σ H => D.nx (σ.set i none) H
  rt := D.rt
  bk := fun σ H => D.bk (σ.set i none) H
  ct := fun σ H => D.ct (σ.set i none) H
def wClauses (K : PySem.W.Frag) (Wout : WX) (D : Ends) : List Cls3 → WX
  | [] => Wout
  | (c, n, ts) :: r => fun cls d σ H => ∃ b, PySem.W.exmOne K cls c = some b ∧ (b = false → wClauses K Wout D r cls d σ H) ∧ (b = true → ∀ a, H a = none → match n with
    | none => ts a cls d D σ H
    | some i => ts a cls d (offNx D i) (σ.set i (some (.ref a))) H)
def SuiteOk (X : Cx) (su : List Stmt) (ts : Addr → Value → Option Addr → TS) : Prop :=
  ∀ (a : Addr) (oe : Obj) (cls : Value) (d : Option Addr) (pn : List (Addr × Obj)), L2N.Zn cls d oe → (∃ vs, oe.data = .fields vs) → PSs (X.suite a ((a, oe) :: pn)) su (ts a cls d)
inductive Clauses (X : Cx) : List ExceptHandler → List Cls3 → Prop
  | nil : Clauses X [] []
  | bare {nm : Str} {c : Value} {ts : Addr → Value → Option Addr → TS} {st : Stmt} {su : List Stmt} {np hp : Pos} {hds : List ExceptHandler} {l : List Cls3} (hc : Names X nm c) (hsu : SuiteOk X (st :: su) ts) (r : Clauses X hds l) :
      Clauses X (.ExceptHandler (some (.Name nm np)) none (st :: su) hp :: hds) ((c, none, ts) :: l)
  | named {nm n : Str} {i : Nat} {c : Value} {ts : Addr → Value → Option Addr → TS} {st : Stmt} {su : List Stmt} {np hp : Pos} {hds : List ExceptHandler} {l : List Cls3} (hc : Names X nm c) (hi : X.N[i]? = some n) (hl : X.env.kindOf n = some .local) (hsu : SuiteOk X (st :: su) ts) (r : Clauses X hds l) :
      Clauses X (.ExceptHandler (some (.Name nm np)) (some n) (st :: su) hp :: hds) ((c, some i, ts) :: l)
theorem Caught.clauses {pins : List (Addr × Obj)} {σ : St} {H : Hp} {x : Addr} {cls : Value} {dd : Option Addr} {Wout : WX} {D : Ends} (hs : X.stack = X.env :: X.outer) (hf : X.env.frame = some X.env.locals) (hN : X.N.Nodup) (tk : L2N.Takes X Wout) {hds : List ExceptHandler} {l : List Cls3} (k : Clauses X hds l) :
    ∀ {s : Shared}, Caught X pins x cls dd σ H s → wClauses X.K Wout D l cls dd σ H → wpAny (model X.prog X.w) X.A (handleBy (.ref x) X.env hds) (SP X pins D) X.xe s := by
  induction k with
  | nil => exact fun C w => C.pass (pos := default) hs hf tk w
  | @bare nm c ts st su np hp hds l hc hsu r ih =>
    intro s C w
    obtain ⟨b, hb, no, yes⟩ := w
    refine wpAny_handleBy_cons (C.test hf hc hb ?_) (by intro q; cases q)
    cases b with
    | false => exact ih C (no rfl)
    | true =>
      refine codeAny_handlers_suite (C.enter fun s' C' => ?_)
      obtain ⟨oe, vs, he, hz, hd, nl, nf⟩ := C'.obj hf
      have S := C'.inv.suite he hd C'.na nl nf
      have ok := C'.inv.ok
      refine wpAny_mono ((hsu x oe cls dd _ hz ⟨_, hd⟩).run [] s' σ H D S (yes rfl x C'.na)) (fun f s6 hsp => ?_) fun _ _ z => False.elim z
      cases f with
      | ret u =>
        obtain ⟨v6, σ6, H6, S6, r6, q6⟩ := hsp
        exact ⟨_, _, _, S6.unsuite ok, r6, q6⟩
      | next => obtain ⟨σ6, H6, S6, q6⟩ := hsp; exact ⟨_, _, S6.unsuite ok, q6⟩
      | brk => obtain ⟨σ6, H6, S6, q6⟩ := hsp; exact ⟨_, _, S6.unsuite ok, q6⟩
      | cont => obtain ⟨σ6, H6, S6, q6⟩ := hsp; exact ⟨_, _, S6.unsuite ok, q6⟩
  | @named nm n i c ts st su np hp hds l hc hi hl hsu r ih =>
    intro s C w
    obtain ⟨b, hb, no, yes⟩ := w
    refine wpAny_handleBy_cons (C.test hf hc hb ?_) (by intro q; cases q)
    cases b with
    | false => exact ih C (no rfl)
    | true =>
      refine codeAny_handlers_suite_as (C.enter fun s' C' => ?_)
      obtain ⟨oe, vs, he, hz, hd, nl, nf⟩ := C'.obj hf
      have S := C'.inv.suite he hd C'.na nl nf
      have ok := C'.inv.ok
      refine store_ok (X := X.suite x ((x, oe) :: (X.pn ++ pins))) (v := .ref x) S hN hi (.inl hl) rfl (fun s5 S5 => ?_) (.inr hl)
      have fin : ∀ {σ6 : St} {H6 : Hp} {s6 : Shared} {Q : Shared → Prop}, Inv (X.suite x ((x, oe) :: (X.pn ++ pins))) [] σ6 H6 s6 → (∀ s7, Inv X pins (σ6.set i none) H6 s7 → Q s7) →
          wpAny (model X.prog X.w) X.A (do bindName X.env n .none; unbindBehindTheSuite X.env n hp) (fun _ s7 => Q s7) X.xe s6 := fun {σ6 H6 s6 Q} S6 hq => gone_ok (S6.unsuite ok) hN hi hl hq
      refine wpAny_mono ((hsu x oe cls dd _ hz ⟨_, hd⟩).run [] s5 _ H (offNx D i) S5 (yes rfl x C'.na)) (fun f s6 hsp => ?_) fun _ _ z => False.elim z
      cases f with
      | ret u =>
        obtain ⟨v6, σ6, H6, S6, r6, q6⟩ := hsp
        exact fin S6 fun s7 J7 => ⟨_, _, _, J7, r6, q6⟩
      | next => obtain ⟨σ6, H6, S6, q6⟩ := hsp; exact fin S6 fun s7 J7 => ⟨_, _, J7, q6⟩
      | brk => obtain ⟨σ6, H6, S6, q6⟩ := hsp; exact fin S6 fun s7 J7 => ⟨_, _, J7, q6⟩
      | cont => obtain ⟨σ6, H6, S6, q6⟩ := hsp; exact fin S6 fun s7 J7 => ⟨_, _, J7, q6⟩
theorem ps_try_cl {body : List Stmt} {h0 : ExceptHandler} {hds : List ExceptHandler} {l : List Cls3} {tb : WX → TS} {Wout : WX} (hs : X.stack = X.env :: X.outer) (hf : X.env.frame = some X.env.locals) (hN : X.N.Nodup) (tk : L2N.Takes X Wout)
    (hb : ∀ (W : WX) (pn : List (Addr × Obj)) (xe : Value → Shared → Prop), L2N.Takes (X.tr pn xe) W → PassesOwn (model X.prog X.w) X.A X.env xe → PSs (X.tr pn xe) body (tb W)) (k : Clauses X (h0 :: hds) l) :
    PS X (.Try body (h0 :: hds) [] [] pos) (fun D σ H => tb (wClauses X.K Wout D l) D σ H) := by
  refine ⟨fun pins s σ H D I h => ?_⟩
  have ok := I.ok
  have hfr : X.A.frames = some (X.env :: X.outer) := by rw [ok.frames, hs]
  refine wpAny_Try_except ?_
  refine wpAny_mono ((hb (wClauses X.K Wout D l) (X.pn ++ pins) _ (fun u s' xx => ?_) PassesOwn.looking).run [] s σ H D (I.toTry _) h) (fun f s1 hsp => ?_) (fun e s1 he => he)
  · obtain ⟨x, B, sI, pins', σ', H', cls, d, rfl, J', nb, up, sky, na, os, ag, w⟩ := xx
    have sky2 : Sky B (X.env :: X.outer) x (L2N.Zn cls d) X.env.locals s'.heap := by rw [← hs]; exact sky
    refine L2N.Sky.land L2N.Zn.steady hfr hf sky2 fun h3 fl3 up3 => ?_
    exact Caught.clauses hs hf hN tk k ⟨⟨B, sI, J'.ofTry ok, nb, up.trans up3, fl3, os, ag⟩, na⟩ w
  · cases f with
    | ret u => obtain ⟨v, σ', H', J', r, q⟩ := hsp; exact ⟨v, σ', H', J'.ofTry ok, r, q⟩
    | next => obtain ⟨σ', H', J', q⟩ := hsp; exact wpAny_execs_nil ⟨σ', H', J'.ofTry ok, q⟩
    | brk => obtain ⟨σ', H', J', q⟩ := hsp; exact ⟨σ', H', J'.ofTry ok, q⟩
    | cont => obtain ⟨σ', H', J', q⟩ := hsp; exact ⟨σ', H', J'.ofTry ok, q⟩

theorem Rel.withX {P : Par} {G H : Hp} {σ : St} {env : Env} (r : Rel P cx G0 H0 G H σ env) (hx : cx.ex = none) (ex : Option (Addr × Value × Option Addr)) : Rel P ⟨cx.hk, ex, cx.ob⟩ G0 H0 G H σ env :=
  ⟨r.hk, r.hh, r.gg, r.gh, r.nw, r.len, fun i s e => by
    have q := r.sl i s e
    cases s with
    | exc k fs =>
      obtain ⟨a, cls, d, e1, _⟩ := q
      rw [hx] at e1
      cases e1
    | _ => exact q, r.dis⟩
theorem Rel.bindX {P : Par} {G H : Hp} {σ : St} {env : Env} {i k : Nat} {fs : List D} {x : Addr} {cls : Value} {dd : Option Addr} (r : Rel P cx G0 H0 G H σ env) (hx : cx.ex = some (x, cls, dd)) (er : ErrRep P G H cls dd k fs) : Rel P cx G0 H0 G H (σ.set i (some (.ref x))) (env.set i (.exc k fs)) := by
  have old : ∀ {j : Nat} {s : Sl}, (env.set i (.exc k fs))[j]? = some s → (s = .exc k fs ∧ (σ.set i (some (.ref x)))[j]? = some (some (.ref x))) ∨ (env[j]? = some s ∧ (σ.set i (some (.ref x)))[j]? = σ[j]?) := fun {j s} e => by
    by_cases q : i = j
    · subst q
      by_cases hl : i < env.length
      · rw [List.getElem?_set_self hl] at e
        cases e
        exact .inl ⟨rfl, List.getElem?_set_self (by rw [r.len]; exact hl)⟩
      · rw [List.getElem?_eq_none (by rw [List.length_set]; omega)] at e
        cases e
    · rw [List.getElem?_set_ne q] at e
      exact .inr ⟨e, List.getElem?_set_ne q⟩
  refine ⟨r.hk, r.hh, r.gg, r.gh, r.nw, by rw [List.length_set, List.length_set]; exact r.len, fun j s e => ?_, fun j l s t p ej el hs ht => ?_⟩
  · rcases old e with ⟨q1, q2⟩ | ⟨q1, q2⟩
    · subst q1; exact ⟨x, cls, dd, hx, q2, er⟩
    · rw [q2]; exact r.sl j s q1
  · rcases old ej with ⟨q1, _⟩ | ⟨q1, q2⟩
    · subst q1; exact False.elim hs
    · rcases old el with ⟨q3, _⟩ | ⟨q3, q4⟩
      · subst q3; exact False.elim ht
      · rw [q2] at hs
        rw [q4] at ht
        exact r.dis j l s t p q1 q3 hs ht
theorem Rel.clr {P : Par} {G H : Hp} {σ : St} {env : Env} {ex : Option (Addr × Value × Option Addr)} (r : Rel P ⟨cx.hk, ex, cx.ob⟩ G0 H0 G H σ env) : Rel P cx G0 H0 G H σ (clr env) := by
  have at_ : ∀ {j : Nat} {s : Sl}, (PL.clr env)[j]? = some s → ∃ s', env[j]? = some s' ∧ s = clr1 s' := fun {j s} e => by
    unfold PL.clr at e
    rw [List.getElem?_map] at e
    cases q : env[j]? with
    | none => rw [q] at e; cases e
    | some s' => rw [q] at e; cases e; exact ⟨s', rfl, rfl⟩
  refine ⟨r.hk, r.hh, r.gg, r.gh, r.nw, by unfold PL.clr; rw [List.length_map]; exact r.len, fun j s e => ?_, fun j l s t p ej el hs ht => ?_⟩
  · obtain ⟨s', e1, e2⟩ := at_ e
    subst e2
    have q := r.sl j s' e1
    cases s' with
    | exc k fs => trivial
    | _ => exact q
  · obtain ⟨s', e1, e2⟩ := at_ ej
    obtain ⟨t', e3, e4⟩ := at_ el
    subst e2
    subst e4
    have f : ∀ {u : Sl} {o : Option (Option V)}, held H (clr1 u) o p → held H u o p := fun {u o} h => by
      cases u with
      | exc k fs => exact False.elim h
      | _ => exact h
    exact r.dis j l s' t' p e1 e3 (f hs) (f ht)
theorem Rel.off {P : Par} {G H : Hp} {σ : St} {env : Env} (i : Nat) (r : Rel P cx G0 H0 G H σ env) : Rel P cx G0 H0 G H (σ.set i none) (env.set i .no) := by
  have := r.wipe [i]
  exact this
theorem sR_out {P : Par} {G H : Hp} {σ : St} {env : Env} {D : Ends} {f : Env → Out} (r : Rel P cx G0 H0 G H σ env) (p : OutP P cx G0 H0 W D (f env)) : sR P cx G0 H0 W f D σ H := ⟨G, env, r, p⟩
/-- what is asked of the clauses -/
inductive HdR (X : Cx) (T : Tab) (ca xa : Nat → Addr) (cx : Hand) (G0 H0 : Hp) : List ExceptHandler → List (Nat × Option Nat × (Env → Out)) → Prop
  | nil : HdR X T ca xa cx G0 H0 [] []
  | bare {nm : Str} {h : Nat} {f : Env → Out} {st : Stmt} {su : List Stmt} {np hp : Pos} {hds : List ExceptHandler} {l : List (Nat × Option Nat × (Env → Out))} (hc : Names X nm (.ref (xa h))) (hm : ∀ k xi, T.exs[k]? = some xi → PySem.W.exmOne X.K (.ref (xa k)) (.ref (xa h)) = some (exm k h))
      (hsu : ∀ (a : Addr) (oe : Obj) (cls : Value) (d : Option Addr) (pn : List (Addr × Obj)), L2N.Zn cls d oe → (∃ vs, oe.data = .fields vs) → PSs (X.suite a ((a, oe) :: pn)) (st :: su) (sR (PX X T ca xa) ⟨cx.hk, some (a, cls, d), cx.ob⟩ G0 H0 W0 f)) (r : HdR X T ca xa cx G0 H0 hds l) :
      HdR X T ca xa cx G0 H0 (.ExceptHandler (some (.Name nm np)) none (st :: su) hp :: hds) ((h, none, f) :: l)
  | named {nm n : Str} {h i : Nat} {f : Env → Out} {st : Stmt} {su : List Stmt} {np hp : Pos} {hds : List ExceptHandler} {l : List (Nat × Option Nat × (Env → Out))} (hc : Names X nm (.ref (xa h))) (hm : ∀ k xi, T.exs[k]? = some xi → PySem.W.exmOne X.K (.ref (xa k)) (.ref (xa h)) = some (exm k h)) (hi : X.N[i]? = some n) (hl : X.env.kindOf n = some .local)
      (hsu : ∀ (a : Addr) (oe : Obj) (cls : Value) (d : Option Addr) (pn : List (Addr × Obj)), L2N.Zn cls d oe → (∃ vs, oe.data = .fields vs) → PSs (X.suite a ((a, oe) :: pn)) (st :: su) (sR (PX X T ca xa) ⟨cx.hk, some (a, cls, d), cx.ob⟩ G0 H0 W0 f)) (r : HdR X T ca xa cx G0 H0 hds l) :
      HdR X T ca xa cx G0 H0 (.ExceptHandler (some (.Name nm np)) (some n) (st :: su) hp :: hds) ((h, some i, f) :: l)
def hdsF : List (Nat × Option Nat × (Env → Out)) → Nat → List D → Env → Out
  | [], k, fs, env => .err k fs env
  | (h, n, f) :: r, k, fs, env => if exm k h = true then (match f (bindX n k fs env) with
      | .nx e1 => .nx (dropX n e1)
      | .ct e1 => .ct (dropX n e1)
      | .ret x => .ret x
      | .rtd o => .rtd o
      | _ => .bad)
    else hdsF r k fs env
def cl3 (P : Par) (cx : Hand) (G0 H0 : Hp) (p : Nat × Option Nat × (Env → Out)) : Cls3 := (.ref (P.xa p.1), p.2.1, fun a cls d => sR P ⟨cx.hk, some (a, cls, d), cx.ob⟩ G0 H0 W0 p.2.2)
theorem HdR.cl {hds : List ExceptHandler} {l : List (Nat × Option Nat × (Env → Out))} (h : HdR X T ca xa cx G0 H0 hds l) : Clauses X hds (l.map (cl3 (PX X T ca xa) cx G0 H0)) := by
  induction h with
  | nil => exact .nil
  | bare hc hm hsu r ih => exact .bare hc hsu ih
  | named hc hm hi hl hsu r ih => exact .named hc hi hl hsu ih
theorem wCl_of {hds : List ExceptHandler} {l : List (Nat × Option Nat × (Env → Out))} (h : HdR X T ca xa cx G0 H0 hds l) (hx : cx.ex = none) {D : Ends} {k : Nat} {fs : List PL.D} {e1 : Env} :
    OutP (PX X T ca xa) cx G0 H0 W D (hdsF l k fs e1) → ∀ cls d σ H G, Rel (PX X T ca xa) cx G0 H0 G H σ e1 → ErrRep (PX X T ca xa) G H cls d k fs → wClauses X.K W D (l.map (cl3 (PX X T ca xa) cx G0 H0)) cls d σ H := by
  -- a suite's end
  have suite : ∀ {n : Option Nat} {f : Env → Out} {e2 : Env}, OutP (PX X T ca xa) cx G0 H0 W D (match f e2 with
      | .nx e1 => .nx (dropX n e1)
      | .ct e1 => .ct (dropX n e1)
      | .ret x => .ret x
      | .rtd o => .rtd o
      | _ => .bad) → ∀ {ex : Option (Addr × Value × Option Addr)}, OutP (PX X T ca xa) ⟨cx.hk, ex, cx.ob⟩ G0 H0 W0 (match n with | none => D | some i => offNx D i) (f e2) := fun {n f e2} p {ex} => by
    cases q : f e2 with
    | nx e3 =>
      rw [q] at p
      cases n with
      | none => exact fun σ H G r => p σ H G r.clr
      | some i => exact fun σ H G r => p _ H G (r.off i).clr
    | ct e3 =>
      rw [q] at p
      cases n with
      | none => exact fun σ H G r => p σ H G r.clr
      | some i => exact fun σ H G r => p _ H G (r.off i).clr
    | ret v =>
      rw [q] at p
      cases n with
      | none => exact p
      | some i => exact p
    | err k fs e3 => rw [q] at p; exact False.elim p
    | bad => rw [q] at p; exact False.elim p
    | rtd o =>
      rw [q] at p
      cases n with
      | none => exact p
      | some i => exact p
  induction h with
  | nil => exact fun p cls d σ H G r er => p cls d σ H G r er
  | @bare nm h f st su np hp hds l hc hm hsu r ih =>
    intro p cls d σ H G rel er
    obtain ⟨xi, h1, h2, h3⟩ := id er
    refine ⟨exm k h, by rw [h2]; exact hm k xi h1, fun e => ?_, fun e a ha => ?_⟩
    · have e' : ¬ exm k h = true := by rw [e]; exact Bool.false_ne_true
      simp only [hdsF, if_neg e'] at p
      exact ih p cls d σ H G rel er
    · simp only [hdsF, if_pos e] at p
      exact ⟨G, e1, rel.withX hx _, suite (n := none) p⟩
  | @named nm n h i f st su np hp hds l hc hm hi hl hsu r ih =>
    intro p cls d σ H G rel er
    obtain ⟨xi, h1, h2, h3⟩ := id er
    refine ⟨exm k h, by rw [h2]; exact hm k xi h1, fun e => ?_, fun e a ha => ?_⟩
    · have e' : ¬ exm k h = true := by rw [e]; exact Bool.false_ne_true
      simp only [hdsF, if_neg e'] at p
      exact ih p cls d σ H G rel er
    · simp only [hdsF, if_pos e] at p
      exact ⟨G, e1.set i (.exc k fs), (rel.withX hx (some (a, cls, d))).bindX rfl er, suite (n := some i) p⟩
theorem ss_try {body : List Stmt} {h0 : ExceptHandler} {hds : List ExceptHandler} {l : List (Nat × Option Nat × (Env → Out))} {fb : Env → Out} (hs : X.stack = X.env :: X.outer) (hf : X.env.frame = some X.env.locals) (hN : X.N.Nodup) (tk : L2N.Takes X W) (hx : cx.ex = none)
    (hb : ∀ (W : WX) (pn : List (Addr × Obj)) (xe : Value → Shared → Prop), L2N.Takes (X.tr pn xe) W → PassesOwn (model X.prog X.w) X.A X.env xe → PSs (X.tr pn xe) body (sR (PX X T ca xa) cx G0 H0 W fb)) (k : HdR X T ca xa cx G0 H0 (h0 :: hds) l) :
    SS X T ca xa cx G0 H0 W (.Try body (h0 :: hds) [] [] pos) fun env => (match fb env with
    | .err k fs e1 => hdsF l k fs e1
    | o => o) :=
  (ps_try_cl hs hf hN tk hb k.cl).imp fun D σ H ⟨G, env, rel, p⟩ => by
    refine ⟨G, env, rel, ?_⟩
    dsimp only at p
    cases q : fb env with
    | err k' fs e1 => rw [q] at p; exact wCl_of k hx p
    | nx e => rw [q] at p; exact p
    | ct e => rw [q] at p; exact p
    | ret e => rw [q] at p; exact p
    | bad => rw [q] at p; exact p
    | rtd o => rw [q] at p; exact p
/-! ### e.field -/
theorem s_xf {k j i : Nat} {x n : Str} {p1 : Pos} {xi : ExI} (hN : X.N[i]? = some x) (hv : Vis X.env.scope x) (hd : (x == ("__debug__" : Str)) = false) (hcd : (x == ("__classdict__" : Str)) = false) (T1 : XfC X.K (xa k)) (hk : T.exs[k]? = some xi) (hno : PySem.W.findIn X.K (.ref (xa k)) n = some none) (hn : xi.fields[j]? = some n)
    (hand : ∀ a cls d, cx.ex = some (a, cls, d) → ∃ oe, (a, oe) ∈ X.pn ∧ L2N.Zn cls d oe ∧ ∃ vs, oe.data = .fields vs) :
    SE X T ca xa cx G0 H0 W (.Attribute (.Name x p1) n pos) fun env => (match env[i]? with
    | some (.exc k' fs) => if k' = k then (match fs[j]? with
      | some d => .ok (.val d)
      | none => .bad) else .bad
    | _ => .bad) := by
  refine ⟨fun pins s σ H Q I h => ?_⟩
  obtain ⟨G, env, rel, p⟩ := h
  dsimp only at p
  cases e : env[i]? with
  | none => rw [e] at p; exact False.elim p
  | some sl =>
    rw [e] at p
    cases sl with
    | exc k' fs =>
      dsimp only at p
      split at p
      · rename_i ek
        subst ek
        split at p
        · rename_i dv ed
          obtain ⟨a, cls, d, e1, e2, xi', h1, h2, h3⟩ := rel.sl i _ e
          obtain ⟨oe, hpn, hz, vs0, hdat⟩ := hand a cls d e1
          rw [h1] at hk
          obtain rfl := Option.some.inj hk
          rcases h3 with h3 | ⟨dd, fv, vs, y1, y2, y3, y4⟩
          · rw [h3] at hn; cases hn
          · obtain ⟨v, ev, rv⟩ := y3.get ed
            have lk := y4 j n v hn ev
            refine attr_of (base_ok rfl) (thn ((pe_var (pos := p1) hN hv hd hcd).run pins s σ H (fun v H' => v = .ref a ∧ H' = H) I ⟨.ref a, e2, rfl, rfl⟩) fun u s1 hh => ?_)
            obtain ⟨v1, H1, I1, r1, ev1, eH⟩ := hh
            subst ev1
            subst eH
            obtain rfl : u = Value.ref a := r1
            obtain ⟨ha, _⟩ := I1.pin (a, oe) (List.mem_append_left _ hpn)
            obtain ⟨mA, hns, hr⟩ := (show ObjOk X.prog X.w H1 s1.heap dd (.xd fv) from I1.hok dd _ y2)
            obtain ⟨od, ho, hl⟩ := lookIn_ns hns
            obtain ⟨u, hu, ru⟩ := RelO.some_of (v := v) (o := mA n) (by rw [← lk]; exact hr n)
            have J : PySem.W.InstAt s1.heap a oe (xa k') (some od) := by
              refine ⟨ha, hz.1.trans h2, ?_, ?_⟩
              · unfold PySem.W.notCls
                rw [hdat]
              · rw [hz.2.1, y1]
                exact ho
            exact HandSPX.exc_get I1.kIn J T1.ga T1.gg T1.exC (PySem.W.findObj_own T1.hdC hno rfl (by rw [hl, hu])) (handed_of ru) ⟨v, H1, I1.tok _, ru, p v H1 G (Step.refl rel.gh) rv⟩
        · exact False.elim p
      · exact False.elim p
    | _ => exact False.elim p
end
end PL

set_option linter.all false
set_option Elab.async false
set_option maxRecDepth 100000
set_option maxHeartbeats 1000000
/-! Soundness, part 13: isinstance(e, ValueError) of an error in hand. -/
namespace PySem.W
open PySem PySem.Spec PyProof.Rows
theorem pl_ans {K : Frag} {x t c : Value} {P : Heap → Prop} (ty : ∀ (M : Model) (h : Heap), K.In h → P h → Looks M h (typeOf x) t) (ne : (t == c) = false) (e : kitCls K t c = some true) : Answers (fun s => K.In s.heap ∧ P s.heap) x c true := by
  intro dep tk prog w A R s hs
  obtain ⟨h0, g, d, tt, os⟩ := s
  obtain ⟨⟨X, p⟩, hq⟩ := hs
  have lt := ty (model prog w) h0 X p
  obtain ⟨k1, k2, k3⟩ := kit_cls (M := model prog w) X e
  have li : Looks (model prog w) h0 (isInstance x c) true := lt.andThen k3
  have nn : ¬ (t == c) = true := by rw [ne]; exact Bool.false_ne_true
  unfold Builtin.«isinstance.nested»
  refine wpAny_bind (lt.at ?_)
  rw [if_neg nn]
  refine wpAny_bind (k1.at ?_)
  rw [if_pos (by decide)]
  k_delta "plainIsInstance"
  refine wpAny_bind (wpAny_bind (k2.at ?_))
  simp only [Bool.not_true, Bool.false_eq_true, if_false]
  refine wpAny_bind (li.at ?_)
  first
    | exact wpAny_pure (wpAny_pure (hq tt))
    | (simp only [if_true]; first | exact wpAny_pure (wpAny_pure (hq tt)) | exact wpAny_pure (hq tt) | exact wpAny_bind (wpAny_pure (wpAny_pure (hq tt))))
theorem pl_isi {K : Frag} {x t c : Value} {P : Heap → Prop} {prog : Program} {w : World} {A : Around} {E : Value → Shared → Prop} {s : Shared} {Q : Value → Shared → Prop} (ty : ∀ (M : Model) (h : Heap), K.In h → P h → Looks M h (typeOf x) t) (ne : (t == c) = false) (e : kitCls K t c = some true) (X : K.In s.heap) (p : P s.heap)
    (hx : x ≠ .builtin "__main__.__loader__#opaque") (h : ∀ tk, Q (.bool true) { s with toks := tk }) : wpAny (model prog w) A (call (.builtin "isinstance") [x, c]) Q E s :=
  call_isinstance (S := fun _ R s => (K.In s.heap ∧ P s.heap) ∧ ∀ tk, R (.ok (.ret (.bool true))) { s with toks := tk })
    (fun prog w A R s hs => isinstance_outer (pl_ans ty ne e 0 _ prog w A R s hs) hx) ⟨⟨X, p⟩, h⟩
end PySem.W
namespace PL
open PySem PySem.Spec PyProof.Rows L2
section
variable {X : Cx} {T : Tab} {ca xa : Nat → Addr} {cx : Hand} {G0 H0 : Hp} {W : WX} {pos p q p1 : Pos}
theorem call_isx : CallR X (.builtin "isinstance") (fun xs H Q => ∃ a oe C, xs = [.ref a, .ty "ValueError"] ∧ (a, oe) ∈ X.pn ∧ oe.cls = .ref C ∧ PySem.W.kitCls X.K (.ref C) (.type "ValueError") = some true ∧ Q (.bl true) H) := by
  intro pins s σ H xs us Q I r h
  obtain ⟨a, oe, C, rfl, hp, hc, hk, hq⟩ := h
  obtain ⟨u, v, rfl, r1, r2⟩ := r.two
  obtain rfl : u = Value.ref a := r1
  obtain rfl : v = Value.type "ValueError" := r2
  obtain ⟨ha, _⟩ := I.pin (a, oe) (List.mem_append_left _ hp)
  exact PySem.W.pl_isi (K := X.K) (t := .ref C) (P := fun h => h.get? a = some oe) (fun M h _ e A Q E s k q => wpAny_typeOf_ref (k _ _ e) (by rw [hc]; exact q)) rfl hk I.kIn ha (fun z => nomatch z) fun tk => ⟨.bl true, H, I.tok _, rfl, hq⟩
theorem s_isx {i : Nat} {x : Str} (hN : X.N[i]? = some x) (hv : Vis X.env.scope x) (hd : (x == ("__debug__" : Str)) = false) (hcd : (x == ("__classdict__" : Str)) = false) (hg : Gl X "isinstance") (hm : X.mg "isinstance" = none) (hg2 : Gl X "ValueError") (hm2 : X.mg "ValueError" = none)
    (hsub : ∀ (k : Nat) xi, T.exs[k]? = some xi → PySem.W.kitCls X.K (.ref (xa k)) (.type "ValueError") = some true) (hand : ∀ a cls d, cx.ex = some (a, cls, d) → ∃ oe, (a, oe) ∈ X.pn ∧ L2N.Zn cls d oe ∧ ∃ vs, oe.data = .fields vs) :
    SE X T ca xa cx G0 H0 W (.Call (.Name "isinstance" p) [.Name x p1, .Name "ValueError" q] [] pos) fun env => (match env[i]? with
    | some (.exc _ _) => .ok (.val (.bl true))
    | _ => .bad) := by
  have pt : PE X (.Name "ValueError" q) (tC (.ty "ValueError")) := pe_bltn hg2 hm2 PyProof.Rows.Boot.«ValueError» (show RelV (.ty _) (.type _) from rfl) (by decide) (by decide)
  refine (pe_callB call_isx hg hm (by decide +kernel) (pa_cons (pe_var (pos := p1) hN hv hd hcd) (pa_cons pt pa_nil rfl) rfl) (he := rfl)).imp fun σ H Q ⟨G, env, rel, pp⟩ => ?_
  dsimp only at pp
  cases e : env[i]? with
  | none => rw [e] at pp; exact False.elim pp
  | some sl =>
    rw [e] at pp
    cases sl with
    | exc k fs =>
      obtain ⟨a, cls, d, e1, e2, xi', h1, h2, h3⟩ := rel.sl i _ e
      obtain ⟨oe, hpn, hz, _⟩ := hand a cls d e1
      exact ⟨.ref a, e2, a, oe, xa k, rfl, hpn, hz.1.trans h2, hsub k xi' h1, pp _ H G (Step.refl rel.gh) (.bl true)⟩
    | _ => exact False.elim pp
end
end PL

set_option linter.all false
set_option Elab.async false
set_option maxRecDepth 100000
set_option maxHeartbeats 1000000
/-! Soundness, part 14: what is one's own within one's own; what is found while lists stand still. -/
namespace PL
open PySem PySem.Spec PyProof.Rows L2
/-! ### parts -/
def stepV (H : Hp) (v : V) (i : Int) : Option V := match v with
  | .ref a => (match H a with
    | some (.lst vs) => (ixNat vs.length i).bind (vs[·]?)
    | some (.tup vs) => (ixNat vs.length i).bind (vs[·]?)
    | _ => none)
  | _ => none
def navV (H : Hp) : V → List Int → Option V
  | v, [] => some v
  | v, i :: is => (stepV H v i).bind fun u => navV H u is
theorem nav_snoc : ∀ (o : Ow) (is : List Int) (i : Int), nav o (is ++ [i]) = (nav o is).bind fun x => stepO x i
  | o, [], i => by
    show (stepO o i).bind (fun x => nav x []) = stepO o i
    cases stepO o i <;> rfl
  | o, j :: is, i => by
    show (stepO o j).bind (fun x => nav x (is ++ [i])) = ((stepO o j).bind fun x => nav x is).bind fun x => stepO x i
    cases stepO o j with
    | none => rfl
    | some x => exact nav_snoc x is i
theorem navV_snoc (H : Hp) : ∀ (v : V) (is : List Int) (i : Int), navV H v (is ++ [i]) = (navV H v is).bind fun u => stepV H u i
  | v, [], i => by
    show (stepV H v i).bind (fun u => navV H u []) = stepV H v i
    cases stepV H v i <;> rfl
  | v, j :: is, i => by
    show (stepV H v j).bind (fun u => navV H u (is ++ [i])) = ((stepV H v j).bind fun u => navV H u is).bind fun u => stepV H u i
    cases stepV H v j with
    | none => rfl
    | some u => exact navV_snoc H u is i
section
variable {P : Par} {G H : Hp}
theorem OwRs.len : ∀ {os : List Ow} {vs : List V}, OwRs P G H os vs → vs.length = os.length
  | [], vs, h => by rw [OwRs] at h; subst h; rfl
  | x :: xs, vs, h => by
    rw [OwRs] at h
    obtain ⟨v, ws, rfl, _, h2⟩ := h
    rw [List.length_cons, List.length_cons, OwRs.len h2]
theorem OwRs.get : ∀ {os : List Ow} {vs : List V} {k : Nat} {x : Ow}, OwRs P G H os vs → os[k]? = some x → ∃ u, vs[k]? = some u ∧ OwR P G H x u ∧ (foot H x u).Sublist (foots H os vs)
  | [], vs, k, x, h, e => by simp at e
  | y :: ys, vs, k, x, h, e => by
    rw [OwRs] at h
    obtain ⟨v, ws, rfl, h1, h2⟩ := h
    rw [foots_cons]
    cases k with
    | zero =>
      have e : some y = some x := e
      cases e
      exact ⟨v, rfl, h1, List.sublist_append_left ..⟩
    | succ k =>
      obtain ⟨u, q1, q2, q3⟩ := OwRs.get h2 (k := k) e
      exact ⟨u, q1, q2, q3.trans (List.sublist_append_right ..)⟩
theorem OwR.step1 {o x : Ow} {v : V} {i : Int} (h : OwR P G H o v) (e : stepO o i = some x) : ∃ u, stepV H v i = some u ∧ OwR P G H x u ∧ (foot H x u).Sublist (foot H o v) := by
  cases o with
  | dat d => cases e
  | lst xs =>
    rw [OwR] at h
    obtain ⟨a, vs, rfl, h1, h2⟩ := h
    have e : (ixNat xs.length i).bind (xs[·]?) = some x := e
    obtain ⟨k, e1, e2⟩ := Option.bind_eq_some_iff.mp e
    obtain ⟨u, q1, q2, q3⟩ := h2.get e2
    refine ⟨u, ?_, q2, ?_⟩
    · show (match H a with
        | some (.lst vs) => (ixNat vs.length i).bind (vs[·]?)
        | some (.tup vs) => (ixNat vs.length i).bind (vs[·]?)
        | _ => none) = some u
      rw [h1]
      simp only
      rw [h2.len, e1]
      exact q1
    · rw [foot_lst h1]
      exact q3.trans (List.sublist_cons_self ..)
  | tup xs =>
    rw [OwR] at h
    obtain ⟨a, vs, rfl, h1, h2⟩ := h
    have e : (ixNat xs.length i).bind (xs[·]?) = some x := e
    obtain ⟨k, e1, e2⟩ := Option.bind_eq_some_iff.mp e
    obtain ⟨u, q1, q2, q3⟩ := h2.get e2
    refine ⟨u, ?_, q2, ?_⟩
    · show (match H a with
        | some (.lst vs) => (ixNat vs.length i).bind (vs[·]?)
        | some (.tup vs) => (ixNat vs.length i).bind (vs[·]?)
        | _ => none) = some u
      rw [h1]
      simp only
      rw [h2.len, e1]
      exact q1
    · rw [foot_tup h1]
      exact q3.trans (List.sublist_cons_self ..)
theorem OwR.nav1 : ∀ {is : List Int} {o w : Ow} {v : V}, OwR P G H o v → nav o is = some w → ∃ u, navV H v is = some u ∧ OwR P G H w u ∧ (foot H w u).Sublist (foot H o v)
  | [], o, w, v, h, e => by cases e; exact ⟨v, rfl, h, List.Sublist.refl _⟩
  | i :: is, o, w, v, h, e => by
    obtain ⟨x, e1, e2⟩ := Option.bind_eq_some_iff.mp e
    obtain ⟨u, q1, q2, q3⟩ := h.step1 e1
    obtain ⟨z, k1, k2, k3⟩ := OwR.nav1 q2 e2
    exact ⟨z, by show (stepV H v i).bind _ = _; rw [q1]; exact k1, k2, k3.trans q3⟩
/-- a list of parts of which one changes -/
theorem OwRs.put {H' : Hp} {p : Addr} (hk : ∀ a, a ≠ p → H' a = H a) : ∀ {os : List Ow} {vs : List V} {k : Nat} {x x' : Ow} {u : V}, OwRs P G H os vs → (foots H os vs).Nodup → os[k]? = some x → vs[k]? = some u → p ∈ foot H x u → OwR P G H' x' u → (foot H' x' u).Sublist (foot H x u) →
    OwRs P G H' (os.set k x') vs ∧ (foots H' (os.set k x') vs).Sublist (foots H os vs)
  | [], vs, k, x, x', u, h, _, e, _, _, _, _ => by simp at e
  | y :: ys, vs, k, x, x', u, h, nd, e, ev, hp, h1, h2 => by
    rw [OwRs] at h
    obtain ⟨v, ws, rfl, g1, g2⟩ := h
    rw [foots_cons] at nd ⊢
    obtain ⟨n1, n2, n3⟩ := List.nodup_append.mp nd
    cases k with
    | zero =>
      have e : some y = some x := e
      cases e
      have ev : some v = some u := ev
      cases ev
      have no : p ∉ foots H ys ws := fun z => n3 p hp p z rfl
      obtain ⟨q1, q2⟩ := OwRs.keep (H' := H') (Same.refl G) g2 fun a ha w z => by rw [hk a fun z => no (z ▸ ha)]; exact z
      rw [List.set_cons_zero]
      exact ⟨by rw [OwRs]; exact ⟨_, ws, rfl, h1, q1⟩, by rw [foots_cons, q2]; exact h2.append (List.Sublist.refl _)⟩
    | succ k =>
      have e : ys[k]? = some x := e
      have ev : ws[k]? = some u := ev
      obtain ⟨u2, r1, _, r3⟩ := g2.get e
      rw [ev] at r1
      cases r1
      have no : p ∉ foot H y v := fun z => n3 p z p (r3.subset hp) rfl
      obtain ⟨q1, q2⟩ := OwR.keep (H' := H') (Same.refl G) g1 fun a ha w z => by rw [hk a fun z => no (z ▸ ha)]; exact z
      obtain ⟨k1, k2⟩ := OwRs.put hk g2 n2 e ev hp h1 h2
      rw [List.set_cons_succ]
      exact ⟨by rw [OwRs]; exact ⟨v, ws, rfl, q1, k1⟩, by rw [foots_cons, q2]; exact (List.Sublist.refl _).append k2⟩
theorem OwR.put {H' : Hp} {p : Addr} (hk : ∀ a, a ≠ p → H' a = H a) : ∀ {is : List Int} {o o' w w' : Ow} {v u : V}, OwR P G H o v → (foot H o v).Nodup → nav o is = some w → navV H v is = some u → p ∈ foot H w u → OwR P G H' w' u → (foot H' w' u).Sublist (foot H w u) → putO o is w' = some o' →
    OwR P G H' o' v ∧ (foot H' o' v).Sublist (foot H o v)
  | [], o, o', w, w', v, u, h, nd, e, ev, hp, h1, h2, eo => by
    cases e
    cases ev
    have eo : some w' = some o' := by
      cases o <;> exact eo
    cases eo
    exact ⟨h1, h2⟩
  | i :: is, o, o', w, w', v, u, h, nd, e, ev, hp, h1, h2, eo => by
    cases o with
    | dat d => cases e
    | lst xs =>
      rw [OwR] at h
      obtain ⟨a, vs, rfl, g1, g2⟩ := h
      rw [foot_lst g1] at nd ⊢
      obtain ⟨na, nd⟩ := List.nodup_cons.mp nd
      obtain ⟨x, e1, e2⟩ := Option.bind_eq_some_iff.mp e
      have e1 : (ixNat xs.length i).bind (xs[·]?) = some x := e1
      obtain ⟨k, e3, e4⟩ := Option.bind_eq_some_iff.mp e1
      obtain ⟨z, r1, r2, r3⟩ := g2.get e4
      have ev : ((match H a with
        | some (.lst vs) => (ixNat vs.length i).bind (vs[·]?)
        | some (.tup vs) => (ixNat vs.length i).bind (vs[·]?)
        | _ => none).bind fun u => navV H u is) = some u := ev
      rw [g1] at ev
      simp only at ev
      rw [g2.len, e3, Option.bind_some, r1, Option.bind_some] at ev
      simp only [putO, e3, e4] at eo
      obtain ⟨x', eo1, rfl⟩ := Option.map_eq_some_iff.mp eo
      obtain ⟨t, t1, t2, t3⟩ := r2.nav1 e2
      rw [ev] at t1
      cases t1
      have px : p ∈ foot H x z := t3.subset hp
      obtain ⟨k1, k2⟩ := OwR.put hk r2 (r3.nodup nd) e2 ev hp h1 h2 eo1
      have ap : a ≠ p := fun q => na (q ▸ r3.subset px)
      obtain ⟨m1, m2⟩ := OwRs.put hk g2 nd e4 r1 px k1 k2
      have ga : H' a = some (.lst vs) := by rw [hk a ap]; exact g1
      exact ⟨by rw [OwR]; exact ⟨a, vs, rfl, ga, m1⟩, by rw [foot_lst ga]; exact m2.cons_cons a⟩
    | tup xs =>
      rw [OwR] at h
      obtain ⟨a, vs, rfl, g1, g2⟩ := h
      rw [foot_tup g1] at nd ⊢
      obtain ⟨na, nd⟩ := List.nodup_cons.mp nd
      obtain ⟨x, e1, e2⟩ := Option.bind_eq_some_iff.mp e
      have e1 : (ixNat xs.length i).bind (xs[·]?) = some x := e1
      obtain ⟨k, e3, e4⟩ := Option.bind_eq_some_iff.mp e1
      obtain ⟨z, r1, r2, r3⟩ := g2.get e4
      have ev : ((match H a with
        | some (.lst vs) => (ixNat vs.length i).bind (vs[·]?)
        | some (.tup vs) => (ixNat vs.length i).bind (vs[·]?)
        | _ => none).bind fun u => navV H u is) = some u := ev
      rw [g1] at ev
      simp only at ev
      rw [g2.len, e3, Option.bind_some, r1, Option.bind_some] at ev
      simp only [putO, e3, e4] at eo
      obtain ⟨x', eo1, rfl⟩ := Option.map_eq_some_iff.mp eo
      obtain ⟨t, t1, t2, t3⟩ := r2.nav1 e2
      rw [ev] at t1
      cases t1
      have px : p ∈ foot H x z := t3.subset hp
      obtain ⟨k1, k2⟩ := OwR.put hk r2 (r3.nodup nd) e2 ev hp h1 h2 eo1
      have ap : a ≠ p := fun q => na (q ▸ r3.subset px)
      obtain ⟨m1, m2⟩ := OwRs.put hk g2 nd e4 r1 px k1 k2
      have ga : H' a = some (.tup vs) := by rw [hk a ap]; exact g1
      exact ⟨by rw [OwR]; exact ⟨a, vs, rfl, ga, m1⟩, by rw [foot_tup ga]; exact m2.cons_cons a⟩
end
/-! ### ways to a part -/
inductive KyE (X : Cx) : Expr → Ky → Prop
  | c {i : Int} {j p} : KyE X (.Constant (.int i) j p) (.c i)
  | v {x : Str} {i : Nat} {p : Pos} (hN : X.N[i]? = some x) (hv : Vis X.env.scope x) (hd : (x == ("__debug__" : Str)) = false) (hcd : (x == ("__classdict__" : Str)) = false) : KyE X (.Name x p) (.v i)
inductive Pth (X : Cx) (i : Nat) : Expr → List Ky → Prop
  | nm {x : Str} {p : Pos} (hN : X.N[i]? = some x) (hv : Vis X.env.scope x) (hd : (x == ("__debug__" : Str)) = false) (hcd : (x == ("__classdict__" : Str)) = false) : Pth X i (.Name x p) []
  | ix {e kx : Expr} {ks : List Ky} {k : Ky} {p : Pos} (h : Pth X i e ks) (hk : KyE X kx k) (hs : noSlice kx = true) : Pth X i (.Subscript e kx p) (ks ++ [k])
theorem keysI_snoc (env : Env) : ∀ (ks : List Ky) (k : Ky), keysI env (ks ++ [k]) = (keysI env ks).bind fun is => (keyI env k).map fun i => is ++ [i]
  | [], k => by
    show (keyI env k).bind (fun i => (some []).bind fun is => some (i :: is)) = (some []).bind fun is => (keyI env k).map fun i => is ++ [i]
    cases keyI env k <;> rfl
  | j :: ks, k => by
    show (keyI env j).bind (fun i => (keysI env (ks ++ [k])).bind fun is => some (i :: is)) = ((keyI env j).bind fun i => (keysI env ks).bind fun is => some (i :: is)).bind fun is => (keyI env k).map fun i => is ++ [i]
    rw [keysI_snoc env ks k]
    cases keyI env j with
    | none => rfl
    | some i =>
      simp only [Option.bind_some]
      cases keysI env ks with
      | none => rfl
      | some is =>
        simp only [Option.bind_some]
        cases keyI env k <;> rfl
section
variable {X : Cx} {T : Tab} {ca xa : Nat → Addr} {cx : Hand} {G0 H0 : Hp} {W : WX}
theorem pe_key {e : Expr} {k : Ky} (h : KyE X e k) : PE X e (fun σ H Q => ∃ G env z, Rel (PX X T ca xa) cx G0 H0 G H σ env ∧ keyI env k = some z ∧ Q (.int z) H) := by
  cases h with
  | c => exact pe_int.imp fun σ H Q ⟨G, env, z, rel, e, q⟩ => by cases e; exact q
  | v hN hv hd hcd =>
    refine (pe_var hN hv hd hcd).imp fun σ H Q ⟨G, env, z, rel, e, q⟩ => ?_
    simp only [keyI] at e
    split at e
    · rename_i z' es
      cases e
      obtain ⟨v, e2, r⟩ := rel.sl _ _ es
      cases r
      exact ⟨_, e2, q⟩
    · cases e
theorem pe_path {i : Nat} {e : Expr} {ks : List Ky} (h : Pth X i e ks) : PE X e (fun σ H Q => ∃ G env o v is w u, Rel (PX X T ca xa) cx G0 H0 G H σ env ∧ env[i]? = some (.dp o) ∧ σ[i]? = some (some v) ∧ keysI env ks = some is ∧ nav o is = some w ∧ navV H v is = some u ∧ Q u H) := by
  induction h with
  | nm hN hv hd hcd =>
    refine (pe_var hN hv hd hcd).imp fun σ H Q ⟨G, env, o, v, is, w, u, rel, eo, ev, ek, e1, e2, q⟩ => ?_
    cases ek
    cases e2
    exact ⟨_, ev, q⟩
  | @ix e kx ks k p h hk hs ih =>
    refine (pe_ix ix_seq ih (pe_key (T := T) (ca := ca) (xa := xa) (cx := cx) (G0 := G0) (H0 := H0) hk) (ix_plain hs)).imp fun σ H Q ⟨G, env, o, v, is, w, u, rel, eo, ev, ek, e1, e2, q⟩ => ?_
    rw [keysI_snoc] at ek
    obtain ⟨js, ek1, ek2⟩ := Option.bind_eq_some_iff.mp ek
    obtain ⟨z, ek3, rfl⟩ := Option.map_eq_some_iff.mp ek2
    rw [nav_snoc] at e1
    rw [navV_snoc] at e2
    obtain ⟨w1, e3, e4⟩ := Option.bind_eq_some_iff.mp e1
    obtain ⟨u1, e5, e6⟩ := Option.bind_eq_some_iff.mp e2
    refine ⟨G, env, o, v, js, w1, u1, rel, eo, ev, ek1, e3, e5, G, env, z, rel, ek3, ?_⟩
    unfold stepV at e6
    split at e6
    · rename_i a
      split at e6
      · rename_i vs ha
        exact .inl ⟨a, vs, z, u, rfl, rfl, SqL.of ha, e6, q⟩
      · rename_i vs ha
        exact .inr (.inl ⟨a, vs, z, u, rfl, rfl, SqT.of ha, e6, q⟩)
      · cases e6
    · cases e6
/-! ### found while lists stand still -/
theorem rep_flat {P : Par} {G G' : Hp} {v : V} {d : D} (h : Rep P G v d) (hf : flatD d = true) : Rep P G' v d := by
  cases h with
  | non => exact .non
  | bl b => exact .bl b
  | int i => exact .int i
  | str x => exact .str x
  | tup h r => cases hf
  | lst h r => cases hf
  | ins h hc hi r => cases hf
theorem reps_flat {P : Par} {G G' : Hp} : ∀ {vs : List V} {ds : List D}, Reps P G vs ds → ds.all flatD = true → Reps P G' vs ds
  | [], [], _, _ => .nil
  | v :: vs, d :: ds, .cons h r, hf => by
    rw [List.all_cons, Bool.and_eq_true] at hf
    exact .cons (rep_flat h hf.1) (reps_flat r hf.2)
theorem err_flat {P : Par} {G G' H : Hp} {cls : Value} {d : Option Addr} {k : Nat} {fs : List D} (h : ErrRep P G H cls d k fs) (hf : fs.all flatD = true) : ErrRep P G' H cls d k fs := by
  obtain ⟨xi, h1, h2, h3⟩ := h
  refine ⟨xi, h1, h2, ?_⟩
  rcases h3 with h3 | ⟨dd, fv, vs, e1, e2, e3, e4⟩
  · exact .inl h3
  · exact .inr ⟨dd, fv, vs, e1, e2, reps_flat e3 hf, e4⟩
/-- H grows, G stays -/
theorem Step.stay {G H G1 H1 G' : Hp} (s : Step G' H G1 H1) (g : Same G H) : Step G H G H1 := ⟨s.hh, Same.refl _, fun a u e => s.hh _ _ (g _ _ e), fun _ _ => rfl⟩
variable {P : Par} {G H : Hp} {σ : St} {env : Env}
theorem toT_bind {α β : Type} {R : Hp → Hp → Hp → β → α → Prop} {r : Res α} {k : α → Out} {D : Ends} {Q1 : β → Hp → Prop} {G' : Hp} (rel : Rel P cx G0 H0 G H σ env) (h : OutP P cx G0 H0 W D (toT r env k))
    (hk : ∀ a x H1 G1, Step G' H G1 H1 → R H G1 H1 x a → Rel P cx G0 H0 G H1 σ env → OutP P cx G0 H0 W D (k a) → Q1 x H1) : Post P W σ G' H R r Q1 := by
  cases r with
  | ok a => exact fun x H' G1 s q => hk a x H' G1 s q (rel.step (s.stay rel.gh)) h
  | err c fs =>
    simp only [toT] at h
    split at h
    · rename_i hf
      exact fun cls d H' G1 s q => h cls d σ H' G (rel.step (s.stay rel.gh)) (err_flat q hf)
    · exact False.elim h
  | bad => exact h
variable {e : Expr} {f : Env → Res Vl} {pos : Pos} {fr tf : List Nat}
theorem ss_asgT {i : Nat} {x : Str} {p1 : Pos} (hN : X.N.Nodup) (hi : X.N[i]? = some x) (hx : Loc X.env.scope x) (hf : X.fn x = true ∨ X.env.scope.names.lookup x = some .local) (he : SE X T ca xa cx G0 H0 W e f) (hs : swapsWith e (some (.Name x p1)) pos.line X.env = pure false) :
    SS X T ca xa cx G0 H0 W (.Assign [.Name x p1] e pos) fun env => toT (f (PL.frz tf (PL.frz fr env))) (PL.frz fr env) fun x => (match x with
    | .val d => if flatD d = true then .nx ((PL.frz fr env).set i (.val d)) else .bad
    | .own ds => if ds.all flatD = true then .nx ((PL.frz fr env).set i (.own ds)) else .bad) :=
  (ps_set hN hi hx he hs hf).imp fun D σ H ⟨G, env, rel, p⟩ => by
    obtain ⟨G', s, rel'⟩ := rel.frz fr
    obtain ⟨G2, s2, rel2⟩ := rel'.frz tf
    refine ⟨G2, _, rel2, toT_bind rel' p fun a v H1 G1 st r r1 q => ?_⟩
    split at q
    · rename_i d
      split at q
      · rename_i hfl
        exact q _ _ _ (r1.putD (rep_flat (show Rep _ G1 v d from r) hfl))
      · exact False.elim q
    · rename_i ds
      split at q
      · rename_i hfl
        obtain ⟨p, vs, e1, e2, e3, e4, e5⟩ := (show RV _ _ G1 H1 v (.own ds) from r)
        have e6 : G' p = none := by
          cases hg : G' p with
          | none => rfl
          | some u =>
            have := st.gg _ _ (s2 _ _ hg)
            rw [e3] at this
            cases this
        exact q _ _ _ (rel'.put (x := .own ds) (st.stay rel'.gh) ⟨p, vs, e1, e2, e6, e4, reps_flat e5 hfl⟩)
      · exact False.elim q
theorem ss_iteT {t : Expr} {as bs : List Stmt} {ft : Env → Res Bool} {fa fb : Env → Out} (ht : ST X T ca xa cx G0 H0 W t ft) (ha : SSs X T ca xa cx G0 H0 W as fa) (hb : SSs X T ca xa cx G0 H0 W bs fb) :
    SS X T ca xa cx G0 H0 W (.If t as bs pos) fun env => toT (ft (PL.frz tf (PL.frz fr env))) (PL.frz fr env) fun k => if k = true then fa (PL.frz fr env) else fb (PL.frz fr env) :=
  (ps_if ht ha hb).imp fun D σ H ⟨G, env, rel, p⟩ => by
    obtain ⟨G', s, rel'⟩ := rel.frz fr
    obtain ⟨G2, s2, rel2⟩ := rel'.frz tf
    refine ⟨G2, _, rel2, toT_bind rel' p fun k b H1 G1 st r r1 q => ?_⟩
    have r : b = k := r
    subst r
    cases b with
    | true => rw [if_pos rfl] at q ⊢; exact ⟨_, _, r1, q⟩
    | false => rw [if_neg Bool.false_ne_true] at q ⊢; exact ⟨_, _, r1, q⟩
theorem ss_exT (he : SE X T ca xa cx G0 H0 W e f) (hs : noComp e = true) : SS X T ca xa cx G0 H0 W (.Expr e pos) fun env => toT (f (PL.frz tf (PL.frz fr env))) (PL.frz fr env) fun _ => .nx (PL.frz fr env) :=
  (ps_expr he (sw_no hs)).imp fun D σ H ⟨G, env, rel, p⟩ => by
    obtain ⟨G', s, rel'⟩ := rel.frz fr
    obtain ⟨G2, s2, rel2⟩ := rel'.frz tf
    exact ⟨G2, _, rel2, toT_bind rel' p fun a v H1 G1 st r r1 q => q σ H1 _ r1⟩
theorem ss_retT (he : SE X T ca xa cx G0 H0 W e f) : SS X T ca xa cx G0 H0 W (.Return (some e) pos) fun env => toT (f (PL.frz tf (PL.frz fr env))) (PL.frz fr env) fun x => (match x with
    | .val d => if flatD d = true then .ret (.val d) else .bad
    | _ => .bad) :=
  (ps_ret he).imp fun D σ H ⟨G, env, rel, p⟩ => by
    obtain ⟨G', s, rel'⟩ := rel.frz fr
    obtain ⟨G2, s2, rel2⟩ := rel'.frz tf
    refine ⟨G2, _, rel2, toT_bind rel' p fun a v H1 G1 st r r1 q => ?_⟩
    split at q
    · rename_i d
      split at q
      · rename_i hfl
        exact q v H1 _ r1.toStep (rep_flat (show Rep _ G1 v d from r) hfl)
      · exact False.elim q
    · exact False.elim q
/-! ### what is one's own is written -/
theorem Rel.putIn {i : Nat} {o w w' o' : Ow} {v : V} {is : List Int} {p : Addr} {h0 h1 : HO} (rel : Rel P cx G0 H0 G H σ env) (eo : env[i]? = some (.dp o)) (ev : σ[i]? = some (some v)) (e1 : nav o is = some w) (e2 : navV H v is = some (.ref p)) (hp : H p = some h0) (hx : ∀ fs, h0 ≠ .xd fs) (hm : p ∈ foot H w (.ref p))
    (r : OwR P G (upd H p h1) w' (.ref p)) (hs : (foot (upd H p h1) w' (.ref p)).Sublist (foot H w (.ref p))) (eq : putO o is w' = some o') : Rel P cx G0 H0 G (upd H p h1) σ (env.set i (.dp o')) := by
  obtain ⟨v', ev', k⟩ := rel.sl i _ eo
  rw [ev] at ev'
  cases ev'
  obtain ⟨t, t1, t2, t3⟩ := k.r.nav1 e1
  rw [e2] at t1
  cases t1
  have hpf : p ∈ foot H o v := t3.subset hm
  obtain ⟨q1, q2⟩ := OwR.put (H' := upd H p h1) (p := p) (fun a n => upd_ne n) k.r k.nd e1 e2 hm r hs eq
  refine rel.writeG eo ⟨v, ev, hpf⟩ hp hx (k.h0 p hpf) (k.g p hpf) ⟨v, ev, q1, q2.nodup k.nd, fun a ha => k.g a (q2.subset ha), fun a ha => k.h0 a (q2.subset ha)⟩ ?_
  rintro q ⟨v2, e3, hq⟩
  rw [ev] at e3
  cases e3
  exact ⟨v, ev, q2.subset hq⟩
theorem OwRs.append {xs ys : List Ow} : ∀ {vs ws : List V}, OwRs P G H xs vs → OwRs P G H ys ws → OwRs P G H (xs ++ ys) (vs ++ ws) ∧ foots H (xs ++ ys) (vs ++ ws) = foots H xs vs ++ foots H ys ws := by
  induction xs with
  | nil =>
    intro vs ws h1 h2
    rw [OwRs] at h1
    subst h1
    exact ⟨h2, by simp [foots]⟩
  | cons x xs ih =>
    intro vs ws h1 h2
    rw [OwRs] at h1
    obtain ⟨v, us, rfl, a, b⟩ := h1
    obtain ⟨q1, q2⟩ := ih b h2
    exact ⟨by rw [List.cons_append, List.cons_append, OwRs]; exact ⟨v, us ++ ws, rfl, a, q1⟩, by rw [List.cons_append, List.cons_append, foots_cons, foots_cons, q2, List.append_assoc]⟩
theorem OwRs.set {xs : List Ow} : ∀ {vs : List V} {j : Nat} {d : D} {v : V}, OwRs P G H xs vs → Rep P G v d → OwRs P G H (xs.set j (.dat d)) (vs.set j v) ∧ (foots H (xs.set j (.dat d)) (vs.set j v)).Sublist (foots H xs vs) := by
  induction xs with
  | nil =>
    intro vs j d v h1 h2
    rw [OwRs] at h1
    subst h1
    exact ⟨by simp [OwRs], by simp [foots]⟩
  | cons x xs ih =>
    intro vs j d v h1 h2
    rw [OwRs] at h1
    obtain ⟨u, us, rfl, a, b⟩ := h1
    cases j with
    | zero =>
      rw [List.set_cons_zero, List.set_cons_zero]
      exact ⟨by rw [OwRs]; exact ⟨v, us, rfl, by rw [OwR]; exact h2, b⟩, by rw [foots_cons, foots_cons]; simp only [foot, List.nil_append]; exact List.sublist_append_right ..⟩
    | succ j =>
      obtain ⟨q1, q2⟩ := ih (j := j) b h2
      rw [List.set_cons_succ, List.set_cons_succ]
      exact ⟨by rw [OwRs]; exact ⟨u, us.set j v, rfl, a, q1⟩, by rw [foots_cons, foots_cons]; exact (List.Sublist.refl _).append q2⟩
end
theorem stepV_same {H H1 : Hp} (s : Same H H1) {v u : V} {i : Int} (h : stepV H v i = some u) : stepV H1 v i = some u := by
  unfold stepV at h ⊢
  split at h
  · rename_i a
    split at h
    · rename_i vs ha; simp only [s _ _ ha]; exact h
    · rename_i vs ha; simp only [s _ _ ha]; exact h
    · cases h
  · cases h
theorem navV_same {H H1 : Hp} (s : Same H H1) : ∀ {is : List Int} {v u : V}, navV H v is = some u → navV H1 v is = some u
  | [], v, u, h => h
  | i :: is, v, u, h => by
    obtain ⟨z, e1, e2⟩ := Option.bind_eq_some_iff.mp h
    show (stepV H1 v i).bind _ = _
    rw [stepV_same s e1]
    exact navV_same s e2
theorem Pth.noSup {X : Cx} {i : Nat} {e : Expr} {ks : List Ky} (h : Pth X i e ks) : noSup e = true := by
  cases h <;> rfl
section
variable {X : Cx} {T : Tab} {ca xa : Nat → Addr} {cx : Hand} {G0 H0 : Hp} {W : WX} {e : Expr} {f : Env → Res Vl} {pos : Pos} {fr tf : List Nat}
theorem ss_appd {i : Nat} {pe : Expr} {ks : List Ky} {apos p2 : Pos} (hp : Pth X i pe ks) (he : SE X T ca xa cx G0 H0 W e f) (hn : noStar e = true) (hl : (apos.endLine == p2.line) = true) :
    SS X T ca xa cx G0 H0 W (.Expr (.Call (.Attribute pe "append" apos) [e] [] p2) pos) fun env => (match (PL.frz fr env)[i]?, keysI (PL.frz fr env) ks with
    | some (.dp o), some is => (match nav o is with
      | some (.lst xs) => toT (f (PL.frz tf (PL.frz fr env))) (PL.frz fr env) fun x => (match x with
        | .val d => if flatD d = true ∧ xs.length < SL then (match putO o is (.lst (xs ++ [.dat d])) with
          | some o' => .nx ((PL.frz fr env).set i (.dp o'))
          | none => .bad) else .bad
        | _ => .bad)
      | _ => .bad)
    | _, _ => .bad) := by
  have st : starEach [e] X.env = [(false, eval e X.env)] := star_cons (es := []) hn
  have hfew : ((backTo p2 (starEach [e] X.env)).all (fun x => !x.1) && (backToKw p2 (keywordEach [] X.env)).all (fun x => x.1.isSome)
      && decide ([e].length + ([] : List Keyword).length + (if ([] : List Keyword).isEmpty then 0 else 1) < 30)) = true := by rw [st]; rfl
  have main := ps_expr (pos := pos) (pe_bm (apos := apos) (cpos := p2) PySem.F.plainAttrs_list PySem.F.slot_list_append PySem.F.type_list_append mt_append (pe_path (T := T) (ca := ca) (xa := xa) (cx := cx) (G0 := G0) (H0 := H0) hp) (pa_cons he pa_nil st) (base_ok hp.noSup) hfew hl st (by rfl)) (sw_no rfl)
  refine main.imp fun D σ H ⟨G, env, rel, p⟩ => ?_
  obtain ⟨G', s, rel'⟩ := rel.frz fr
  dsimp only at p
  split at p
  · rename_i o is ed ek
    split at p
    · rename_i xs hw
      obtain ⟨v, ev, k⟩ := rel'.sl i _ ed
      obtain ⟨G2, s2, rel2⟩ := rel'.frz tf
      obtain ⟨u, u1, u2, u3⟩ := k.r.nav1 hw
      rw [OwR] at u2
      obtain ⟨l, vs, rfl, h1, h2⟩ := u2
      refine ⟨G', _, o, v, is, _, _, rel', ed, ev, ek, hw, u1, .inl ⟨rfl, vs, SqL.of h1⟩, G2, _, rel2, toT_bind rel' p fun a y H1 G1 st r r1 q => ?_⟩
      split at q
      · rename_i d
        split at q
        · rename_i hz
          split at q
          · rename_i o' eo
            have sh : Same H H1 := st.hh
            obtain ⟨v', ev', k1⟩ := r1.sl i _ ed
            rw [ev] at ev'
            cases ev'
            obtain ⟨z, z1, z2, z3⟩ := k1.r.nav1 hw
            rw [navV_same sh u1] at z1
            cases z1
            rw [OwR] at z2
            obtain ⟨l', vs', el, g1, g2⟩ := z2
            cases el
            have rd : Rep _ G' y d := rep_flat (show Rep _ G1 y d from r) hz.1
            refine ⟨l, vs', y, rfl, rfl, g1, by rw [g2.len, sizeLine_eq]; exact hz.2, ?_⟩
            have one : OwRs (PX X T ca xa) G' H1 [Ow.dat d] [y] := by
              rw [OwRs]
              exact ⟨y, [], rfl, by rw [OwR]; exact rd, by rw [OwRs]⟩
            have nd1 : (foot H1 (.lst xs) (.ref l)).Nodup := z3.nodup k1.nd
            rw [foot_lst g1] at nd1
            obtain ⟨nl, _⟩ := List.nodup_cons.mp nd1
            obtain ⟨a1, a2⟩ := OwRs.append g2 one
            have fo : foots H1 [Ow.dat d] [y] = [] := by simp [foots, foot]
            rw [fo, List.append_nil] at a2
            obtain ⟨b1, b2⟩ := a1.keep (H' := upd H1 l (.lst (vs' ++ [y]))) (Same.refl _) fun a ha w hw' => by
              rw [a2] at ha
              have n : a ≠ l := fun z => nl (by rw [← z]; exact ha)
              rw [upd_ne n]
              exact hw'
            refine q _ _ _ (r1.putIn ed ev hw (navV_same sh u1) g1 (by intro _; simp) (by rw [foot_lst g1]; exact List.mem_cons_self) (w' := .lst (xs ++ [.dat d])) ?_ ?_ eo)
            · rw [OwR]
              exact ⟨l, vs' ++ [y], rfl, upd_same, b1⟩
            · rw [foot_lst (upd_same (H := H1)), foot_lst g1, b2, a2]
              exact List.Sublist.refl _
          · exact False.elim q
        · exact False.elim q
      · exact False.elim q
    · exact False.elim p
  · exact False.elim p
theorem ss_setd {i : Nat} {pe kx : Expr} {ks : List Ky} {k : Ky} {p2 : Pos} (hp : Pth X i pe ks) (hk : KyE X kx k) (hs : noSlice kx = true) (he : SE X T ca xa cx G0 H0 W e f) :
    SS X T ca xa cx G0 H0 W (.Assign [.Subscript pe kx p2] e pos) fun env => (match (PL.frz fr env)[i]?, keysI (PL.frz fr env) ks, keyI (PL.frz fr env) k with
    | some (.dp o), some is, some z => (match nav o is with
      | some (.lst xs) => toT (f (PL.frz tf (PL.frz fr env))) (PL.frz fr env) fun x => (match x with
        | .val d => if flatD d = true then (match ixNat xs.length z with
          | some j => (match putO o is (.lst (xs.set j (.dat d))) with
            | some o' => .nx ((PL.frz fr env).set i (.dp o'))
            | none => .bad)
          | none => .bad) else .bad
        | _ => .bad)
      | _ => .bad)
    | _, _, _ => .bad) := by
  refine (ps_asg he (pg_sub (pe_path (T := T) (ca := ca) (xa := xa) (cx := cx) (G0 := G0) (H0 := H0) hp) (pe_key (T := T) (ca := ca) (xa := xa) (cx := cx) (G0 := G0) (H0 := H0) hk) set_list (sub_assign hs)) (sws_no rfl) (by cases e <;> rfl)).imp fun D σ H ⟨G, env, rel, p⟩ => ?_
  obtain ⟨G', s, rel'⟩ := rel.frz fr
  dsimp only at p
  split at p
  · rename_i o is z ed ek ez
    split at p
    · rename_i xs hw
      obtain ⟨G2, s2, rel2⟩ := rel'.frz tf
      refine ⟨G2, _, rel2, toT_bind rel' p fun a y H1 G1 st r r1 q => ?_⟩
      split at q
      · rename_i d
        split at q
        · rename_i hz
          split at q
          · rename_i j ej
            split at q
            · rename_i o' eo
              obtain ⟨v, ev, k1⟩ := r1.sl i _ ed
              obtain ⟨u, z1, z2, z3⟩ := k1.r.nav1 hw
              rw [OwR] at z2
              obtain ⟨l, vs, rfl, g1, g2⟩ := z2
              have rd : Rep _ G' y d := rep_flat (show Rep _ G1 y d from r) hz
              refine ⟨G', _, o, v, is, _, _, r1, ed, ev, ek, hw, z1, G', _, z, r1, ez, l, vs, z, j, rfl, rfl, g1, by rw [g2.len]; exact ej, ?_⟩
              have nd1 : (foot H1 (.lst xs) (.ref l)).Nodup := z3.nodup k1.nd
              rw [foot_lst g1] at nd1
              obtain ⟨nl, _⟩ := List.nodup_cons.mp nd1
              obtain ⟨a1, a2⟩ := OwRs.set (j := j) g2 rd
              obtain ⟨b1, b2⟩ := a1.keep (H' := upd H1 l (.lst (vs.set j y))) (Same.refl _) fun a ha w hw' => by
                have n : a ≠ l := fun z => nl (by rw [← z]; exact a2.subset ha)
                rw [upd_ne n]
                exact hw'
              refine q _ _ _ (r1.putIn ed ev hw z1 g1 (by intro _; simp) (by rw [foot_lst g1]; exact List.mem_cons_self) (w' := .lst (xs.set j (.dat d))) ?_ ?_ eo)
              · rw [OwR]
                exact ⟨l, vs.set j y, rfl, upd_same, b1⟩
              · rw [foot_lst (upd_same (H := H1)), foot_lst g1, b2]
                exact a2.cons_cons l
            · exact False.elim q
          · exact False.elim q
        · exact False.elim q
      · exact False.elim q
    · exact False.elim p
  · exact False.elim p
end
end PL

set_option linter.all false
set_option Elab.async false
set_option maxRecDepth 100000
set_option maxHeartbeats 1000000
/-! Soundness, part 15: values of which the parts are one's own. -/
namespace PL
open PySem PySem.Spec PyProof.Rows L2
section
variable {P : Par} {cx : Hand} {G0 H0 G H : Hp} {W : WX} {σ : St} {env : Env}
/-- a slot takes what nobody else holds -/
theorem Rel.putS {i : Nat} {v : V} {s1 : Sl} (rel : Rel P cx G0 H0 G H σ env) (r : SlR P cx H0 G H (some (some v)) s1) (hd : ∀ q, held H s1 (some (some v)) q → ∀ (j : Nat) s, j ≠ i → env[j]? = some s → ¬ held H s σ[j]? q) : Rel P cx G0 H0 G H (σ.set i (some v)) (env.set i s1) := by
  have old : ∀ {j : Nat} {t : Sl}, i ≠ j → (env.set i s1)[j]? = some t → env[j]? = some t ∧ (σ.set i (some v))[j]? = σ[j]? := fun {j t} n e => by
    rw [List.getElem?_set_ne n] at e
    exact ⟨e, List.getElem?_set_ne n⟩
  have nw : ∀ {t : Sl}, (env.set i s1)[i]? = some t → t = s1 ∧ (σ.set i (some v))[i]? = some (some v) := fun {t} e => by
    by_cases hl : i < env.length
    · rw [List.getElem?_set_self hl] at e
      cases e
      exact ⟨rfl, List.getElem?_set_self (by rw [rel.len]; exact hl)⟩
    · rw [List.getElem?_eq_none (by rw [List.length_set]; omega)] at e
      cases e
  refine ⟨rel.hk, rel.hh, rel.gg, rel.gh, rel.nw, by rw [List.length_set, List.length_set]; exact rel.len, fun j t e => ?_, fun j k t u p ej ek hj hk => ?_⟩
  · by_cases q : i = j
    · subst q
      obtain ⟨e1, e2⟩ := nw e
      subst e1
      rw [e2]
      exact r
    · obtain ⟨e1, e2⟩ := old q e
      rw [e2]
      exact rel.sl j t e1
  · by_cases q : i = j
    · subst q
      by_cases q2 : i = k
      · exact q2
      · obtain ⟨e1, e2⟩ := old q2 ek
        obtain ⟨e3, e4⟩ := nw ej
        subst e3
        rw [e2] at hk
        rw [e4] at hj
        exact absurd hk (hd p hj k u (fun z => q2 z.symm) e1)
    · obtain ⟨e1, e2⟩ := old q ej
      rw [e2] at hj
      by_cases q2 : i = k
      · subst q2
        obtain ⟨e3, e4⟩ := nw ek
        subst e3
        rw [e4] at hk
        exact absurd hj (hd p hk j t (fun z => q z.symm) e1)
      · obtain ⟨e3, e4⟩ := old q2 ek
        rw [e4] at hk
        exact rel.dis j k t u p e1 e3 hj hk
theorem dats_reps : ∀ {ds : List D} {vs : List V}, Reps P G vs ds → OwRs P G H (ds.map .dat) vs ∧ foots H (ds.map .dat) vs = []
  | [], _, .nil => ⟨by simp [OwRs], by simp [foots]⟩
  | d :: ds, _, .cons h r => by
    obtain ⟨q1, q2⟩ := dats_reps r
    exact ⟨by rw [List.map_cons, OwRs]; exact ⟨_, _, rfl, by rw [OwR]; exact h, q1⟩, by rw [List.map_cons, foots_cons, q2]; simp [foot]⟩
theorem allDat_reps : ∀ {xs : List Ow} {ds : List D} {vs : List V}, allDat xs = some ds → OwRs P G H xs vs → Reps P G vs ds ∧ foots H xs vs = []
  | [], ds, vs, e, h => by
    cases e
    rw [OwRs] at h
    subst h
    exact ⟨.nil, by simp [foots]⟩
  | .dat d :: xs, ds, vs, e, h => by
    obtain ⟨es, e1, rfl⟩ := Option.map_eq_some_iff.mp e
    rw [OwRs] at h
    obtain ⟨v, ws, rfl, h1, h2⟩ := h
    rw [OwR] at h1
    obtain ⟨q1, q2⟩ := allDat_reps e1 h2
    exact ⟨.cons h1 q1, by rw [foots_cons, q2]; simp [foot]⟩
  | .lst _ :: xs, ds, vs, e, h => by cases e
  | .tup _ :: xs, ds, vs, e, h => by cases e
/-- a part as a slot -/
theorem owSl_ok {o : Ow} {v : V} (k : OwOk P G H H0 o v) : SlR P cx H0 G H (some (some v)) (owSl o) ∧ ∀ q, held H (owSl o) (some (some v)) q → q ∈ foot H o v := by
  cases o with
  | dat d =>
    have r := k.r
    rw [OwR] at r
    exact ⟨⟨v, rfl, r⟩, fun q h => False.elim h⟩
  | tup xs => exact ⟨⟨v, rfl, k⟩, fun q ⟨v', e, h⟩ => by cases e; exact h⟩
  | lst xs => exact ⟨⟨v, rfl, k⟩, fun q ⟨v', e, h⟩ => by cases e; exact h⟩
/-- a value is one's own as far as it is -/
theorem vlO_ok {x : Vl} {v : V} {G1 H1 : Hp} (rel : Rel P cx G0 H0 G H σ env) (s : Step G H G1 H1) (r : RV P H G1 H1 v x) : OwOk P G1 H1 H0 (vlO x) v ∧ ∀ a ∈ foot H1 (vlO x) v, H a = none := by
  cases x with
  | val d =>
    have r : Rep P G1 v d := r
    exact ⟨⟨by rw [vlO, OwR]; exact r, by simp [vlO, foot], by simp [vlO, foot], by simp [vlO, foot]⟩, by simp [vlO, foot]⟩
  | own ds =>
    obtain ⟨p, vs, rfl, h1, h2, h3, rr⟩ := r
    obtain ⟨q1, q2⟩ := dats_reps (H := H1) rr
    have f : foot H1 (.lst (ds.map .dat)) (.ref p) = [p] := by rw [foot_lst h1, q2]
    refine ⟨⟨by rw [vlO, OwR]; exact ⟨p, vs, rfl, h1, q1⟩, by rw [vlO, f]; simp, fun a ha => ?_, fun a ha => ?_⟩, fun a ha => ?_⟩
    all_goals (rw [vlO, f] at ha; rw [List.mem_singleton.mp ha])
    · exact h2
    · exact rel.hh.free h3
    · exact h3
theorem rtO_ok {x : Rt} {v : V} {G1 H1 : Hp} (rel : Rel P cx G0 H0 G H σ env) (s : Step G H G1 H1) (r : RX P H G1 H1 v x) : OwOk P G1 H1 H0 (rtO x) v ∧ ∀ a ∈ foot H1 (rtO x) v, H a = none := by
  cases x with
  | v y => exact vlO_ok rel s r
  | dp o =>
    have r : OwOk P G1 H1 H o v := r
    exact ⟨⟨r.r, r.nd, r.g, fun a ha => rel.hh.free (r.h0 a ha)⟩, r.h0⟩
/-- whose it is: new, or of a slot that is given away -/
def Whose (H : Hp) (σ : St) (env : Env) (sl : List Nat) (a : Addr) : Prop := H a = none ∨ ∃ (i : Nat) (s : Sl), i ∈ sl ∧ env[i]? = some s ∧ held H s σ[i]? a
def PostO (P : Par) (W : WX) (σ : St) (G H H0 : Hp) (env : Env) (sl : List Nat) (r : Res Ow) (Q : VK) : Prop := match r with
  | .ok o => ∀ v H' G', Step G H G' H' → OwOk P G' H' H0 o v → (∀ a ∈ foot H' o v, Whose H σ env sl a) → Q v H'
  | .err k fs => ∀ cls d H' G', Step G H G' H' → ErrRep P G' H' cls d k fs → W cls d σ H'
  | .bad => False
def PostOs (P : Par) (W : WX) (σ : St) (G H H0 : Hp) (env : Env) (sl : List Nat) (r : Res (List Ow)) (Q : List V → Hp → Prop) : Prop := match r with
  | .ok os => ∀ vs H' G', Step G H G' H' → OwRs P G' H' os vs → (foots H' os vs).Nodup → (∀ a ∈ foots H' os vs, G' a = none ∧ H0 a = none) → (∀ a ∈ foots H' os vs, Whose H σ env sl a) → Q vs H'
  | .err k fs => ∀ cls d H' G', Step G H G' H' → ErrRep P G' H' cls d k fs → W cls d σ H'
  | .bad => False
def tO (P : Par) (cx : Hand) (G0 H0 : Hp) (W : WX) (sl : List Nat) (f : Env → Res Ow) : TE := fun σ H Q => ∃ G env, Rel P cx G0 H0 G H σ env ∧ PostO P W σ G H H0 env sl (f env) Q
def tOs (P : Par) (cx : Hand) (G0 H0 : Hp) (W : WX) (sl : List Nat) (f : Env → Res (List Ow)) : TA := fun σ H Q => ∃ G env, Rel P cx G0 H0 G H σ env ∧ PostOs P W σ G H H0 env sl (f env) Q
end
section
variable {X : Cx} {T : Tab} {ca xa : Nat → Addr} {cx : Hand} {G0 H0 : Hp} {W : WX} {e : Expr} {pos : Pos}
theorem so_e {f : Env → Res Vl} (he : SE X T ca xa cx G0 H0 W e f) : PE X e (tO (PX X T ca xa) cx G0 H0 W [] fun env => (f env).bind fun r => .ok (vlO r)) :=
  he.imp fun σ H Q ⟨G, env, rel, p⟩ => by
    refine ⟨G, env, rel, ?_⟩
    dsimp only at p
    cases q : f env with
    | ok x =>
      rw [q] at p
      intro v H' G' s r
      obtain ⟨k1, k2⟩ := vlO_ok rel s r
      exact p v H' G' s k1 fun a ha => .inl (k2 a ha)
    | err k fs => rw [q] at p; exact p
    | bad => rw [q] at p; exact p
theorem so_call {nm : Str} {call : List D → Res Rt} {pm : List Bool} {es : List Expr} {h : Env → Res (List D)} {p : Pos} (F : FnAt X T ca xa W nm call pm) (hg : Gl X nm) (hdb : (nm == ("__debug__" : Str)) = false) (ha : SAR X T ca xa cx G0 H0 W pm es h) (hns : es.all noStar = true) (hne : es ≠ []) :
    PE X (.Call (.Name nm p) es [] pos) (tO (PX X T ca xa) cx G0 H0 W [] fun env => (h env).bind fun ds => (call ds).bind fun r => .ok (rtO r)) := by
  obtain ⟨k, f, fd, ps, F1, hr, hm, hk, hb, hl⟩ := F.at_
  cases es with
  | nil => exact absurd rfl hne
  | cons e es =>
    simp only [List.all_cons, Bool.and_eq_true] at hns
    refine (pe_callS (E := WE W) F1 hr hg hm hk hb (fun σ => L2N.passAt F.tk σ) ha hdb (star_cons hns.1) (star_any hns.2)).imp fun σ H Q ⟨G, env, rel, p⟩ => ?_
    refine ⟨G, env, rel, ?_⟩
    dsimp only at p
    cases q : h env with
    | bad => rw [q] at p; exact p
    | err c fs => rw [q] at p; exact p
    | ok ds =>
      rw [q] at p
      intro vs H1 G1 s1 r1
      refine ⟨hl, G1, ds, s1.gh, r1, ?_⟩
      cases q2 : call ds with
      | bad => rw [Res.bind_ok, q2] at p; exact p
      | err c fs => rw [Res.bind_ok, q2] at p; exact fun cls d H' G' s er => p cls d H' G' (s1.trans s) er
      | ok x =>
        rw [Res.bind_ok, q2] at p
        intro v H2 G2 s2 r2
        obtain ⟨k1, k2⟩ := rtO_ok (rel.step s1) s2 r2
        exact p v H2 G2 (s1.trans s2) k1 fun a ha => .inl (s1.hh.free (k2 a ha))
theorem so_s {i : Nat} {x : Str} (hN : X.N[i]? = some x) (hv : Vis X.env.scope x) (hd : (x == ("__debug__" : Str)) = false) (hcd : (x == ("__classdict__" : Str)) = false) : PE X (.Name x pos) (tO (PX X T ca xa) cx G0 H0 W [i] fun env => (match env[i]? with
    | some (.val d) => .ok (.dat d)
    | some (.own ds) => .ok (.lst (ds.map .dat))
    | some (.dp o) => .ok o
    | _ => .bad)) :=
  (pe_var hN hv hd hcd).imp fun σ H Q ⟨G, env, rel, p⟩ => by
    dsimp only at p
    cases e : env[i]? with
    | none => rw [e] at p; exact p.elim
    | some s =>
      have q := rel.sl i s e
      rw [e] at p
      cases s with
      | val d =>
        obtain ⟨v, e2, r⟩ := q
        exact ⟨v, e2, p v H G (Step.refl rel.gh) ⟨by rw [OwR]; exact r, by simp [foot], by simp [foot], by simp [foot]⟩ (by simp [foot])⟩
      | own ds =>
        obtain ⟨l, vs, e2, h1, h2, h3, r⟩ := q
        obtain ⟨q1, q2⟩ := dats_reps (H := H) r
        have f : foot H (.lst (ds.map .dat)) (.ref l) = [l] := by rw [foot_lst h1, q2]
        refine ⟨.ref l, e2, p _ H G (Step.refl rel.gh) ⟨by rw [OwR]; exact ⟨l, vs, rfl, h1, q1⟩, by rw [f]; simp, fun a ha => ?_, fun a ha => ?_⟩ fun a ha => ?_⟩
        all_goals (rw [f] at ha; obtain rfl := List.mem_singleton.mp ha)
        · exact h2
        · exact h3
        · exact .inr ⟨i, _, List.mem_singleton.mpr rfl, e, e2⟩
      | dp o =>
        obtain ⟨v, e2, k⟩ := q
        exact ⟨v, e2, p v H G (Step.refl rel.gh) k fun a ha => .inr ⟨i, _, List.mem_singleton.mpr rfl, e, v, e2, ha⟩⟩
      | _ => exact p.elim
theorem sos_nil : PA X [] (tOs (PX X T ca xa) cx G0 H0 W [] fun _ => .ok []) :=
  pa_nil.imp fun σ H Q ⟨G, env, rel, p⟩ => p [] H G (Step.refl rel.gh) (by rw [OwRs]) (by simp [foots]) (by simp [foots]) (by simp [foots])
theorem sos_cons {es : List Expr} {s1 s2 : List Nat} {f : Env → Res Ow} {g : Env → Res (List Ow)} (he : PE X e (tO (PX X T ca xa) cx G0 H0 W s1 f)) (ha : PA X es (tOs (PX X T ca xa) cx G0 H0 W s2 g)) (hn : noStar e = true) (hd : (s1 ++ s2).Nodup) :
    PA X (e :: es) (tOs (PX X T ca xa) cx G0 H0 W (s1 ++ s2) fun env => (f env).bind fun x => (g env).bind fun os => .ok (x :: os)) :=
  (pa_cons he ha (star_cons hn)).imp fun σ H Q ⟨G, env, rel, p⟩ => by
    refine ⟨G, env, rel, ?_⟩
    dsimp only at p
    cases q : f env with
    | bad => rw [q] at p; exact p
    | err c fs => rw [q] at p; exact p
    | ok o =>
      rw [q] at p
      intro v H1 G1 st1 k1 w1
      have rel1 := rel.step st1
      refine ⟨G1, env, rel1, ?_⟩
      rw [Res.bind_ok] at p
      cases q2 : g env with
      | bad => rw [q2] at p; exact p
      | err c fs => rw [q2] at p; exact fun cls d H' G' s er => p cls d H' G' (st1.trans s) er
      | ok os =>
        rw [q2] at p
        intro vs H2 G2 st2 r2 n2 h2 w2
        obtain ⟨k2, f2⟩ := k1.step st2
        -- a slot that holds it now held it then
        have back : ∀ {i : Nat} {s : Sl} {a : Addr}, env[i]? = some s → held H1 s σ[i]? a → held H s σ[i]? a := fun {i s a} ei h => (held_step (rel.sl i s ei) st1).mp h
        have dj : ∀ a ∈ foot H2 o v, ∀ b ∈ foots H2 os vs, a ≠ b := by
          rintro a ha b hb rfl
          rw [f2] at ha
          rcases w2 a hb with h | ⟨i, s, hi, ei, h⟩
          · exact k1.r.there a ha h
          · have h' := back ei h
            rcases w1 a ha with z | ⟨j, t, hj, ej, z⟩
            · exact ((rel.sl i s ei).there h').1 z
            · have := rel.dis i j s t a ei ej h' z
              subst this
              exact (List.nodup_append.mp hd).2.2 i hj i hi rfl
        refine p (v :: vs) H2 G2 (st1.trans st2) (by rw [OwRs]; exact ⟨v, vs, rfl, k2.r, r2⟩) ?_ (fun a ha => ?_) (fun a ha => ?_)
        · rw [foots_cons]
          exact List.nodup_append.mpr ⟨k2.nd, n2, dj⟩
        · rw [foots_cons] at ha
          rcases List.mem_append.mp ha with ha | ha
          · exact ⟨k2.g a ha, k2.h0 a ha⟩
          · exact h2 a ha
        · rw [foots_cons] at ha
          rcases List.mem_append.mp ha with ha | ha
          · rw [f2] at ha
            rcases w1 a ha with z | ⟨j, t, hj, ej, z⟩
            · exact .inl z
            · exact .inr ⟨j, t, List.mem_append_left _ hj, ej, z⟩
          · rcases w2 a ha with h | ⟨i, s, hi, ei, h⟩
            · exact .inl (st1.hh.free h)
            · exact .inr ⟨i, s, List.mem_append_right _ hi, ei, back ei h⟩
theorem so_tup {es : List Expr} {k : Nat} {sl : List Nat} {g : Env → Res (List Ow)} (ha : PA X es (tOs (PX X T ca xa) cx G0 H0 W sl g)) : PE X (.Tuple es k pos) (tO (PX X T ca xa) cx G0 H0 W sl fun env => (g env).bind fun os => if os.length ≤ SL then .ok (.tup os) else .bad) :=
  (pe_tup ha).imp fun σ H Q ⟨G, env, rel, p⟩ => by
    refine ⟨G, env, rel, ?_⟩
    dsimp only at p
    cases q : g env with
    | bad => rw [q] at p; exact p
    | err c fs => rw [q] at p; exact p
    | ok os =>
      rw [q, Res.bind_ok] at p
      intro vs H1 G1 st1 r1 n1 h1 w1
      by_cases z : os.length ≤ SL
      · rw [if_pos z] at p
        refine ⟨by rw [sizeLine_eq, r1.len]; exact z, fun l hl => ?_⟩
        have s2 : Step G1 H1 G1 (upd H1 l (.tup vs)) := Step.mine st1.gh hl
        have no : l ∉ foots H1 os vs := fun m => r1.there l m hl
        obtain ⟨q1, q2⟩ := r1.keep (H' := upd H1 l (.tup vs)) (Same.refl _) fun a ha u e => s2.hh _ _ e
        have f : foot (upd H1 l (.tup vs)) (.tup os) (.ref l) = l :: foots H1 os vs := by rw [foot_tup upd_same, q2]
        refine p _ _ _ (st1.trans s2) ⟨by rw [OwR]; exact ⟨l, vs, rfl, upd_same, q1⟩, by rw [f]; exact List.nodup_cons.mpr ⟨no, n1⟩, fun a ha => ?_, fun a ha => ?_⟩ fun a ha => ?_
        all_goals (rw [f] at ha; rcases List.mem_cons.mp ha with rfl | ha)
        · exact st1.gh.free hl
        · exact (h1 a ha).1
        · exact rel.hh.free (st1.hh.free hl)
        · exact (h1 a ha).2
        · exact .inl (st1.hh.free hl)
        · exact w1 a ha
      · rw [if_neg z] at p; exact False.elim p
theorem so_lst {es : List Expr} {sl : List Nat} {g : Env → Res (List Ow)} (ha : PA X es (tOs (PX X T ca xa) cx G0 H0 W sl g)) : PE X (.List es pos) (tO (PX X T ca xa) cx G0 H0 W sl fun env => (g env).bind fun os => if os.length ≤ SL then .ok (.lst os) else .bad) :=
  (pe_lst ha).imp fun σ H Q ⟨G, env, rel, p⟩ => by
    refine ⟨G, env, rel, ?_⟩
    dsimp only at p
    cases q : g env with
    | bad => rw [q] at p; exact p
    | err c fs => rw [q] at p; exact p
    | ok os =>
      rw [q, Res.bind_ok] at p
      intro vs H1 G1 st1 r1 n1 h1 w1
      by_cases z : os.length ≤ SL
      · rw [if_pos z] at p
        refine ⟨by rw [sizeLine_eq, r1.len]; exact z, fun l hl => ?_⟩
        have s2 : Step G1 H1 G1 (upd H1 l (.lst vs)) := Step.mine st1.gh hl
        have no : l ∉ foots H1 os vs := fun m => r1.there l m hl
        obtain ⟨q1, q2⟩ := r1.keep (H' := upd H1 l (.lst vs)) (Same.refl _) fun a ha u e => s2.hh _ _ e
        have f : foot (upd H1 l (.lst vs)) (.lst os) (.ref l) = l :: foots H1 os vs := by rw [foot_lst upd_same, q2]
        refine p _ _ _ (st1.trans s2) ⟨by rw [OwR]; exact ⟨l, vs, rfl, upd_same, q1⟩, by rw [f]; exact List.nodup_cons.mpr ⟨no, n1⟩, fun a ha => ?_, fun a ha => ?_⟩ fun a ha => ?_
        all_goals (rw [f] at ha; rcases List.mem_cons.mp ha with rfl | ha)
        · exact st1.gh.free hl
        · exact (h1 a ha).1
        · exact rel.hh.free (st1.hh.free hl)
        · exact (h1 a ha).2
        · exact .inl (st1.hh.free hl)
        · exact w1 a ha
      · rw [if_neg z] at p; exact False.elim p
/-! ### statements -/
theorem ss_retd {sl fr : List Nat} {f : Env → Res Ow} (he : PE X e (tO (PX X T ca xa) cx G0 H0 W sl f)) : SS X T ca xa cx G0 H0 W (.Return (some e) pos) fun env => (f (PL.frz fr env)).to (PL.frz fr env) fun o => .rtd o :=
  (ps_ret he).imp fun D σ H ⟨G, env, rel, p⟩ => by
    obtain ⟨G', s, rel'⟩ := rel.frz fr
    refine ⟨G', _, rel', ?_⟩
    dsimp only at p
    cases q : f (PL.frz fr env) with
    | bad => rw [q] at p; exact p
    | err c fs => rw [q] at p; exact fun cls d H' G1 s er => p cls d σ H' G1 (rel'.step s) er
    | ok o => rw [q] at p; exact fun v H1 G1 st k w => p v H1 G1 (rel'.step st).toStep k
theorem ss_asgo {i : Nat} {x : Str} {p1 : Pos} {fr : List Nat} {f : Env → Res Ow} (hN : X.N.Nodup) (hi : X.N[i]? = some x) (hx : Loc X.env.scope x) (hf : X.fn x = true ∨ X.env.scope.names.lookup x = some .local) (he : PE X e (tO (PX X T ca xa) cx G0 H0 W [] f)) (hs : swapsWith e (some (.Name x p1)) pos.line X.env = pure false) :
    SS X T ca xa cx G0 H0 W (.Assign [.Name x p1] e pos) fun env => (f (PL.frz fr env)).to (PL.frz fr env) fun o => .nx ((PL.frz fr env).set i (owSl o)) :=
  (ps_set hN hi hx he hs hf).imp fun D σ H ⟨G, env, rel, p⟩ => by
    obtain ⟨G', s, rel'⟩ := rel.frz fr
    refine ⟨G', _, rel', ?_⟩
    dsimp only at p
    cases q : f (PL.frz fr env) with
    | bad => rw [q] at p; exact p
    | err c fs => rw [q] at p; exact fun cls d H' G1 s er => p cls d σ H' G1 (rel'.step s) er
    | ok o =>
      rw [q] at p
      intro v H1 G1 st k w
      have rel1 := rel'.step st
      obtain ⟨k1, k2⟩ := owSl_ok (cx := cx) k
      refine p _ _ _ (rel1.putS k1 fun z hz j t nj ej hh => ?_)
      rcases w z (k2 z hz) with h | ⟨_, _, h, _⟩
      · exact ((rel'.sl j t ej).there ((held_step (rel'.sl j t ej) st).mp hh)).1 h
      · simp at h
theorem put_allO {P : Par} {G H : Hp} : ∀ (is : List Nat) {vs : List V} {os : List Ow} {σ : St} {env e1 : Env}, Rel P cx G0 H0 G H σ env → OwRs P G H os vs → (foots H os vs).Nodup → (∀ a ∈ foots H os vs, G a = none ∧ H0 a = none) → (∀ a ∈ foots H os vs, ∀ (j : Nat) s, env[j]? = some s → ¬ held H s σ[j]? a) → setOs is os env = some e1 →
    Rel P cx G0 H0 G H ((is.zip vs).foldl (fun σ p => σ.set p.1 (some p.2)) σ) e1
  | [], vs, os, σ, env, e1, rel, r, nd, h, w, e => by
    cases os with
    | nil => cases e; exact rel
    | cons _ _ => cases e
  | i :: is, vs, os, σ, env, e1, rel, r, nd, h, w, e => by
    cases os with
    | nil => cases e
    | cons o os =>
      rw [OwRs] at r
      obtain ⟨v, ws, rfl, r1, r2⟩ := r
      rw [foots_cons] at nd h w
      obtain ⟨n1, n2, n3⟩ := List.nodup_append.mp nd
      have k : OwOk P G H H0 o v := ⟨r1, n1, fun a ha => (h a (List.mem_append_left _ ha)).1, fun a ha => (h a (List.mem_append_left _ ha)).2⟩
      obtain ⟨k1, k2⟩ := owSl_ok (cx := cx) k
      have rel2 := rel.putS (i := i) k1 fun q hq j s nj ej hh => w q (List.mem_append_left _ (k2 q hq)) j s ej hh
      rw [List.zip_cons_cons, List.foldl_cons]
      refine put_allO is rel2 r2 n2 (fun a ha => h a (List.mem_append_right _ ha)) (fun a ha j s ej hh => ?_) e
      by_cases q : i = j
      · subst q
        by_cases hl : i < env.length
        · rw [List.getElem?_set_self hl] at ej
          cases ej
          rw [List.getElem?_set_self (by rw [rel.len]; exact hl)] at hh
          exact n3 a (k2 a hh) a ha rfl
        · rw [List.getElem?_eq_none (by rw [List.length_set]; omega)] at ej
          cases ej
      · rw [List.getElem?_set_ne q] at ej
        rw [List.getElem?_set_ne q] at hh
        exact w a (List.mem_append_right _ ha) j s ej hh
theorem setOs_len : ∀ {is : List Nat} {os : List Ow} {env e1 : Env}, setOs is os env = some e1 → os.length = is.length
  | [], [], _, _, _ => rfl
  | [], _ :: _, _, _, e => by cases e
  | _ :: _, [], _, _, e => by cases e
  | _ :: is, _ :: os, _, _, e => by rw [List.length_cons, List.length_cons, setOs_len (is := is) e]
theorem ss_asgot {es : List Expr} {is fr : List Nat} {k : Nat} {tp : Pos} {stb : Str → Bool} {f : Env → Res Ow} (hst : StB X stb) (hc : X.calm = true) (hN : X.N.Nodup) (h : namesB X.N stb es is = true) (he : PE X e (tO (PX X T ca xa) cx G0 H0 W [] f)) (hs : noTup e = true) :
    SS X T ca xa cx G0 H0 W (.Assign [.Tuple es k tp] e pos) fun env => (f (PL.frz fr env)).to (PL.frz fr env) fun o => (match o with
    | .tup os => (match setOs is os (PL.frz fr env) with
      | some e1 => .nx e1
      | none => .bad)
    | _ => .bad) := by
  obtain ⟨h1, h2⟩ := names_len (env := X.env) h
  refine (ps_asg he (pg_tup (n := is.length) hc (pgs_names hst hN h) h1 h2) (sws_no rfl) (swst_no hs)).imp fun D σ H ⟨G, env, rel, p⟩ => ?_
  obtain ⟨G', s, rel'⟩ := rel.frz fr
  refine ⟨G', _, rel', ?_⟩
  dsimp only at p
  cases q : f (PL.frz fr env) with
  | bad => rw [q] at p; exact p
  | err c fs => rw [q] at p; exact fun cls d H' G1 s er => p cls d σ H' G1 (rel'.step s) er
  | ok o =>
    rw [q] at p
    intro v H1 G1 st kk w
    have rel1 := rel'.step st
    simp only [Res.to_ok] at p
    split at p
    · rename_i os
      split at p
      · rename_i e1 e2
        have r := kk.r
        rw [OwR] at r
        obtain ⟨a, vs, rfl, g1, g2⟩ := r
        have f0 : foot H1 (.tup os) (.ref a) = a :: foots H1 os vs := foot_tup g1
        have nd := kk.nd
        rw [f0] at nd
        refine ⟨a, vs, rfl, SqT.of g1, by rw [g2.len]; exact setOs_len e2, by rw [g2.len]; exact setOs_len e2, ?_⟩
        refine p _ _ _ (put_allO is rel1 g2 (List.nodup_cons.mp nd).2 (fun b hb => ⟨kk.g b (by rw [f0]; exact List.mem_cons_of_mem _ hb), kk.h0 b (by rw [f0]; exact List.mem_cons_of_mem _ hb)⟩) (fun b hb j t ej hh => ?_) e2)
        rcases w b (by rw [f0]; exact List.mem_cons_of_mem _ hb) with h | ⟨_, _, h, _⟩
        · exact ((rel'.sl j t ej).there ((held_step (rel'.sl j t ej) st).mp hh)).1 h
        · simp at h
      · exact False.elim p
    · exact False.elim p
theorem outP_th {P : Par} {cx : Hand} {G0 H0 : Hp} {W : WX} {D : Ends} {o : Out} {l : List Nat} (h : OutP P cx G0 H0 W D (thO l o)) : OutP P cx G0 H0 W D o := by
  cases o with
  | nx e =>
    intro σ H G rel
    obtain ⟨G', s, rel'⟩ := rel.frz l
    exact h _ _ _ rel'
  | ret r => exact h
  | ct e => exact h
  | err k fs e => exact h
  | bad => exact h
  | rtd o => exact h
theorem ss_th {st : Stmt} {f : Env → Out} (l : List Nat) (h : SS X T ca xa cx G0 H0 W st f) : SS X T ca xa cx G0 H0 W st fun env => thO l (f env) :=
  h.imp fun D σ H ⟨G, env, rel, p⟩ => ⟨G, env, rel, outP_th p⟩
end
section
variable {X : Cx} {T : Tab} {ca xa : Nat → Addr} {cx : Hand} {G0 H0 : Hp} {W : WX} {pos : Pos} {fr : List Nat}
theorem ss_apop {i j : Nat} {x y : Str} {p1 p3 apos bpos p2 p4 : Pos} (hi : X.N[i]? = some x) (hx : Vis X.env.scope x) (hd : (x == ("__debug__" : Str)) = false) (hcd : (x == ("__classdict__" : Str)) = false)
    (hj : X.N[j]? = some y) (hy : Vis X.env.scope y) (hdy : (y == ("__debug__" : Str)) = false) (hcdy : (y == ("__classdict__" : Str)) = false) (hij : i ≠ j) (hl : (apos.endLine == p2.line) = true) (hl2 : (bpos.endLine == p4.line) = true) :
    SS X T ca xa cx G0 H0 W (.Expr (.Call (.Attribute (.Name x p1) "append" apos) [.Call (.Attribute (.Name y p3) "pop" bpos) [] [] p4] [] p2) pos) fun env => (match (frz fr env)[i]?, (frz fr env)[j]? with
    | some (.own ds), some (.own es) => (match es.getLast? with
      | some d => if ds.length < SL then .nx (((frz fr env).set j (.own es.dropLast)).set i (.own (ds ++ [d]))) else .bad
      | none => .bad)
    | _, _ => .bad) := by
  have st : starEach [.Call (.Attribute (.Name y p3) "pop" bpos) [] [] p4] X.env = [(false, eval (.Call (.Attribute (.Name y p3) "pop" bpos) [] [] p4) X.env)] := star_cons (es := []) rfl
  have hfew : ((backTo p2 (starEach [.Call (.Attribute (.Name y p3) "pop" bpos) [] [] p4] X.env)).all (fun x => !x.1) && (backToKw p2 (keywordEach [] X.env)).all (fun x => x.1.isSome)
      && decide ([Expr.Call (.Attribute (.Name y p3) "pop" bpos) [] [] p4].length + ([] : List Keyword).length + (if ([] : List Keyword).isEmpty then 0 else 1) < 30)) = true := by rw [st]; rfl
  have pop := pe_bm0 (apos := bpos) (cpos := p4) PySem.F.plainAttrs_list PySem.F.slot_list_pop PySem.F.type_list_pop mt_pop (pe_var (pos := p3) hj hy hdy hcdy) (base_ok rfl) hl2
  have main := ps_expr (pos := pos) (pe_bm (apos := apos) (cpos := p2) PySem.F.plainAttrs_list PySem.F.slot_list_append PySem.F.type_list_append mt_append (pe_var (pos := p1) hi hx hd hcd) (pa_cons pop pa_nil st) (base_ok rfl) hfew hl st (by rfl)) (sw_no rfl)
  refine main.imp fun D σ H ⟨G, env, rel, p⟩ => ?_
  obtain ⟨G', s, rel'⟩ := rel.frz fr
  dsimp only at p
  split at p
  · rename_i ds es ed ee
    obtain ⟨l, vs, e1, h1, r1⟩ := own_at rel' ed
    obtain ⟨l2, ws, e2, h2, r2⟩ := own_at rel' ee
    split at p
    · rename_i d hd'
      split at p
      · rename_i hz
        have hg : es[es.length - 1]? = some d := by rw [← List.getLast?_eq_getElem?]; exact hd'
        obtain ⟨v, hv, rv⟩ := r2.get hg
        have rw2 := rel'.write ee e2 h2 (show Reps _ _ ws.dropLast es.dropLast by rw [List.dropLast_eq_take, List.dropLast_eq_take, r2.length]; exact r2.take _)
        have ed' : ((frz fr env).set j (.own es.dropLast))[i]? = some (.own ds) := by rw [List.getElem?_set_ne (fun e => hij e.symm)]; exact ed
        obtain ⟨l3, vs3, e3, h3, r3⟩ := own_at rw2 ed'
        rw [e1] at e3
        cases e3
        refine ⟨.ref l, e1, .inl ⟨rfl, vs, SqL.of h1⟩, .ref l2, e2, .inl ⟨rfl, ws, SqL.of h2⟩, l2, ws, v, rfl, rfl, h2, by rw [r2.length]; exact hv, l, vs3, v, rfl, rfl, h3, by rw [r3.length, sizeLine_eq]; exact hz, ?_⟩
        exact p _ _ _ (rw2.write ed' e1 h3 (r3.append (.cons rv .nil)))
      · exact False.elim p
    · exact False.elim p
  · exact False.elim p
end
end PL

set_option linter.all false
set_option Elab.async false
set_option maxRecDepth 100000
set_option maxHeartbeats 4000000
/-! Soundness, part 16: sorted(set(xs)) of a list of whole numbers. -/
namespace L2
open PySem PySem.Spec PyProof.Rows
section
variable {P : Program} {w : World} {A : Around} {E : Value → Shared → Prop} {s : Shared}
/-- a set as it is just made -/
abbrev setNew (w : World) : Obj := { cls := .type "set", dict := none, data := .set #[] 0 (.fresh 0 0 (!w.params.followText "set-order")) }
/-- what filling leaves -/
def Filled (w : World) (s : Shared) (a : Addr) (ns : List Int) (s₂ : Shared) : Prop := ∃ h' tk c, s₂ = { s with heap := h', toks := tk } ∧ SetR w h' a (fun j => decide (j ∈ ns)) c ∧ c ≤ ns.length ∧ ∀ b o, b ≠ a → s.heap.get? b = some o → h'.get? b = some o
/-- a new set takes the numbers of a list -/
theorem set_takes {a l : Addr} {items : Array Value} {ns : List Int} (hh : A.handled = none) (ha : s.heap.get? a = some (setNew w)) (hl : s.heap.IsList l items) (hne : l ≠ a) (hi : IntsAre items.toList ns) (hb : ns.length + 1 < scanBound) :
    codeAny (model P w) A (.call (.builtin "set.__init__") ⟨[.ref a, .ref l], []⟩) (wants (fun r s₂ => r = .none ∧ Filled w s a ns s₂) E) s := by
  have sz : items.size = ns.length := by rw [← Array.length_toList]; exact IntsAre.length hi
  refine codeAny_call_builtin F.called_set.init.plain F.entry_set_init (check_set_init_1 ⟨_, ha, rfl⟩ ?_)
  have hl0 := hl
  obtain ⟨⟨ocls, odict, odata, oslots⟩, hol, rfl, nl, rfl⟩ := hl
  have r1 := F.sub_list_set
  have r2 := F.sub_list_frozenset
  have r3 : (Value.type "list" == Value.type "dict") = false := by decide
  unfold Builtin.«set.__init__» noKeywords Builtin.Frozenset.updateFrom
  generalize hPI : pyIter = PI
  wp_walk
  subst hPI
  have lt1 : a < s.heap.objs.size := Heap.lt_size ha
  have lt2 : l < s.heap.objs.size := Heap.lt_size hol
  refine wpAny_pyIter_list hl0 (wpAny_bind (wpAny_runValue ?_))
  have W := (Walks.list (prog := P) (w := w) (A := A.in1.in1) (by simp [hh]) s.heap.objs.size l (Nat.ne_of_lt lt2) items).toS
  have outside : a ∉ [s.heap.objs.size, l] := by
    simp only [List.mem_cons, List.not_mem_nil, or_false, not_or]
    exact ⟨Nat.ne_of_lt lt1, fun e => hne e.symm⟩
  have vals : ∀ (i : Nat) (v : Value), items[i]? = some v → ∃ k t, ns[i]? = some k ∧ v = .int k t := fun i v hv => by
    have hi' : i < ns.length := by rw [← sz]; exact (Array.getElem?_eq_some_iff.mp hv).1
    obtain ⟨t, e⟩ := IntsAre.int_at hi i v (by rw [Array.getElem?_toList]; exact hv)
    exact ⟨ns[i], t, List.getElem?_eq_getElem hi', by rw [e, List.getD_eq_getElem?_getD, List.getElem?_eq_getElem hi']; rfl⟩
  refine set_update_ints W a outside ns sz hb vals (items.size - 0) 0 _ rfl (Nat.zero_le _) ?there ?fresh ?fin
  case there => exact ⟨⟨_, Heap.get?_push_size _ rfl, rfl, rfl⟩, hl0.push _⟩
  case fresh => exact ⟨0, Nat.le_refl 0, setR_new_at (Heap.get?_push_of_some _ ha)⟩
  intro s' c mv hc R
  obtain ⟨h', g', d', tk', os'⟩ := s'
  obtain rfl : g' = s.gens := mv.gens
  obtain rfl : d' = s.drawn := mv.drawn
  obtain rfl : os' = s.os := mv.os
  refine wpAny_pure (wpAny_pure ⟨rfl, h', tk', c, rfl, R, by rw [← sz]; exact hc, fun b o hba e => mv.heap b o ?_ (Heap.get?_push_of_some _ e)⟩)
  have lt3 := Heap.lt_size e
  simp only [List.mem_cons, List.not_mem_nil, or_false, not_or]
  exact ⟨hba, Nat.ne_of_lt lt3⟩
/-- set(xs) -/
theorem set_of_list {l : Addr} {items : Array Value} {ns : List Int} {Q : Value → Shared → Prop} (hh : A.handled = none) (hl : s.heap.IsList l items) (hi : IntsAre items.toList ns) (hb : ns.length + 1 < scanBound)
    (h : ∀ (h' : Heap) (tk c : Nat), SetR w h' s.heap.objs.size (fun j => decide (j ∈ ns)) c → c ≤ ns.length → (∀ b o, s.heap.get? b = some o → h'.get? b = some o) → Q (.ref s.heap.objs.size) { s with heap := h', toks := tk }) :
    wpAny (model P w) A (call (.type "set") [.ref l]) Q E s := by
  obtain ⟨c0, tl0, mro⟩ := F.called_set.mro
  have m1 := F.called_set.made
  have m2 := F.called_set.sub
  have m3 := F.called_set.notType
  have m4 := F.called_set.canCreate
  have m5 := F.typeCall_set_1 (.ref l)
  refine wpAny_call (codeAny_of_tree (wpAny_pure ⟨Code.quiet_builtin _ (by decide +kernel), codeAny_builtin F.entry_type_call ?_⟩))
  rw [Around.under_plain (weight_type_call_type "set" [.ref l] []) rfl]
  repeat (any_goals (first | assumption | wp_step))
  refine codeAny_mono (code_set_led1 (.ref l) (E := E) (Q₁ := fun obj s₁ => obj = .ref s.heap.objs.size ∧ s₁ = { s with heap := s.heap.push (setNew w) }) ⟨rfl, rfl⟩) fun r s₁ hr => ?_
  cases r with
  | error e => exact hr
  | ok fl =>
    cases fl with
    | ret obj =>
      obtain ⟨rfl, rfl⟩ := hr
      have new : (s.heap.push (setNew w)).get? s.heap.objs.size = some (setNew w) := Heap.get?_push_size _ rfl
      have ty : Shared.TypeIs { s with heap := s.heap.push (setNew w) } (.ref s.heap.objs.size) "set" := ⟨_, new, rfl⟩
      have i1 := F.called_set.init.lookup
      have i2 := F.called_set.init.bind (.ref s.heap.objs.size)
      have lt2 : l < s.heap.objs.size := by
        obtain ⟨o, e, _⟩ := hl
        exact Heap.lt_size e
      repeat (any_goals (first | assumption | wp_step))
      refine codeAny_mono (set_takes (E := E) (s := { s with heap := s.heap.push (setNew w) }) (by simp [hh]) new (hl.push _) (Nat.ne_of_lt lt2) hi hb) fun r2 s2 hr2 => ?_
      cases r2 with
      | error e => exact hr2
      | ok fl2 =>
        cases fl2 with
        | ret r =>
          obtain ⟨rfl, h', tk, c, rfl, R, hc, keep⟩ := hr2
          repeat (any_goals (first | assumption | wp_step))
          exact h _ _ _ R hc fun b o e => keep b o (Nat.ne_of_lt (Heap.lt_size e)) (Heap.get?_push_of_some _ e)
        | _ => exact hr2.elim
    | _ => exact hr.elim
end
/-- set(xs) of a list of whole numbers -/
def rSetOfI (K : PySem.W.Frag) (w : World) : List V → Hp → VK → Prop := fun xs H Q => ∃ (a : Addr) (ns : List Int), xs = [V.ref a] ∧ SqL K H a (ns.map V.int) ∧ ns.length + 1 < scanBound ∧
  ∀ p c, H p = none → c ≤ ns.length → Q (.ref p) (upd H p (SetO w p (fun j => decide (j ∈ ns)) c))
theorem cr_setOfI {X : Cx} (hc : X.calm = true) : CallR X (.type "set") (rSetOfI X.K X.w) := by
  intro pins s σ H xs us Q I r h
  obtain ⟨a, ns, rfl, ha, hb, q⟩ := h
  rw [Vals.ref1 r]
  obtain ⟨its, rv, pt, hz⟩ := I.list ha
  have hi : IntsAre its.toArray.toList ns := ints_of_vals rv
  refine set_of_list (I.ok.hd hc) pt.isList hi hb fun h' tk c R hcn keep => ?_
  have hn : H s.heap.objs.size = none := I.hok.fresh (Nat.le_refl _)
  exact ⟨.ref _, upd H s.heap.objs.size (SetO X.w s.heap.objs.size (fun j => decide (j ∈ ns)) c), I.laid (t' := tk) keep (Nat.le_refl _) (setO_new R), rfl, q _ c hn hcn⟩
end L2
namespace PL
open PySem PySem.Spec PyProof.Rows L2
theorem insI_mem {k j : Int} : ∀ {xs : List Int}, j ∈ insI k xs ↔ j = k ∨ j ∈ xs
  | [] => by simp [insI]
  | x :: r => by
    rw [insI]
    by_cases h : k < x
    · rw [if_pos h]; simp
    · rw [if_neg h]
      by_cases e : k = x
      · rw [if_pos e]; subst e; simp
      · rw [if_neg e, List.mem_cons, insI_mem, List.mem_cons]
        exact ⟨fun z => by rcases z with z | z | z <;> simp [z], fun z => by rcases z with z | z | z <;> simp [z]⟩
theorem insI_asc {k : Int} : ∀ {xs : List Int}, xs.Pairwise (· < ·) → (insI k xs).Pairwise (· < ·)
  | [], _ => List.pairwise_singleton ..
  | x :: r, h => by
    have h' := List.pairwise_cons.mp h
    rw [insI]
    by_cases q : k < x
    · rw [if_pos q]
      refine List.pairwise_cons.mpr ⟨fun z hz => ?_, h⟩
      rcases List.mem_cons.mp hz with rfl | hz
      · exact q
      · have := h'.1 z hz
        omega
    · rw [if_neg q]
      by_cases e : k = x
      · rw [if_pos e]; exact h
      · rw [if_neg e]
        refine List.pairwise_cons.mpr ⟨fun z hz => ?_, insI_asc h'.2⟩
        rcases insI_mem.mp hz with rfl | hz
        · omega
        · exact h'.1 z hz
theorem ssetI_mem {j : Int} : ∀ {ns : List Int}, j ∈ ssetI ns ↔ j ∈ ns
  | [] => Iff.rfl
  | x :: r => by
    show j ∈ insI x (ssetI r) ↔ _
    rw [insI_mem, ssetI_mem, List.mem_cons]
theorem ssetI_asc : ∀ ns : List Int, (ssetI ns).Pairwise (· < ·)
  | [] => List.Pairwise.nil
  | x :: r => insI_asc (ssetI_asc r)
theorem asc_uniq : ∀ {a b : List Int}, a.Pairwise (· < ·) → b.Pairwise (· < ·) → (∀ k, k ∈ a ↔ k ∈ b) → a = b
  | [], [], _, _, _ => rfl
  | [], y :: b, _, _, h => absurd ((h y).mpr (List.mem_cons_self ..)) (by simp)
  | x :: a, [], _, _, h => absurd ((h x).mp (List.mem_cons_self ..)) (by simp)
  | x :: a, y :: b, ha, hb, h => by
    have ha' := List.pairwise_cons.mp ha
    have hb' := List.pairwise_cons.mp hb
    have e : x = y := by
      rcases List.mem_cons.mp ((h x).mp (List.mem_cons_self ..)) with e | e
      · exact e
      · rcases List.mem_cons.mp ((h y).mpr (List.mem_cons_self ..)) with e2 | e2
        · exact e2.symm
        · have := ha'.1 y e2
          have := hb'.1 x e
          omega
    subst e
    refine congrArg (x :: ·) (asc_uniq ha'.2 hb'.2 fun k => ?_)
    constructor
    · intro hk
      rcases List.mem_cons.mp ((h k).mp (List.mem_cons_of_mem _ hk)) with e | e
      · subst e
        have := ha'.1 k hk
        omega
      · exact e
    · intro hk
      rcases List.mem_cons.mp ((h k).mpr (List.mem_cons_of_mem _ hk)) with e | e
      · subst e
        have := hb'.1 k hk
        omega
      · exact e
section
variable {X : Cx} {T : Tab} {ca xa : Nat → Addr} {cx : Hand} {G0 H0 : Hp} {W : WX} {a : Expr} {fa : Env → Res D} {pos : Pos}
theorem l_sset : RLst (PX X T ca xa) ssetD (fun vs H Q => rSetOfI X.K X.w vs H fun v H1 => rSortedSet X.w [v] H1 Q) := by
  intro W σ G H x d Q s r p
  cases d with
  | lst ds =>
    obtain ⟨a, vs, rfl, h, rr⟩ := r.lst s
    simp only [ssetD] at p
    split at p
    · rename_i ns e
      obtain ⟨e1, _⟩ := rr.intsOf e
      subst e1
      split at p
      · rename_i hl
        refine ⟨a, ns, rfl, h, by unfold scanBound; omega, fun p0 c hp0 hc => ⟨p0, _, c, rfl, upd_same, by omega, fun ns' q hs hm hlen hq => ?_⟩⟩
        have e2 : ns' = ssetI ns := asc_uniq hs (ssetI_asc ns) fun k => by rw [hm k, ssetI_mem, decide_eq_true_iff]
        subst e2
        have st : Step G H G (upd H p0 (SetO X.w p0 (fun j => decide (j ∈ ns)) c)) := Step.mine s hp0
        have nq : q ≠ p0 := fun z => by rw [z, upd_same] at hq; cases hq
        have hq0 : H q = none := by rwa [upd_ne nq] at hq
        exact p _ _ _ (st.trans (Step.mine st.gh hq)) ⟨q, _, rfl, upd_same, s.free hq0, hq0, Reps.ints _⟩
      · exact False.elim p
    · exact False.elim p
  | _ => exact False.elim p
theorem s_sset {p p2 pos2 : Pos} (hc : X.calm = true) (hg : Gl X "sorted") (hm : X.mg "sorted" = none) (hg2 : Gl X "set") (hm2 : X.mg "set" = none) (ha : SP' X T ca xa cx G0 H0 W a fa) (hn : noStar a = true) :
    SE X T ca xa cx G0 H0 W (.Call (.Name "sorted" p) [.Call (.Name "set" p2) [a] [] pos2] [] pos) fun env => (fa env).bind ssetD := by
  have st := star_cons (es := []) (env := X.env) hn
  refine s_call1 l_sset ha hn fun t => ?_
  have t1 := pe_callTy (T := "set") (pos := pos2) (p := p2) (cr_setOfI hc) hg2 hm2 (by decide +kernel) t (he := st)
  have t2 := pe_callB (id := "sorted") (pos := pos) (p := p) (cr_sortedSet hc) hg hm (by decide +kernel) (pa_cons t1 pa_nil (star_cons (es := []) rfl)) (he := star_cons (es := []) rfl)
  exact t2.imp fun σ H Q h => by
    unfold tCB at h ⊢
    exact h
end
end PL

set_option linter.all false
set_option Elab.async false
set_option maxRecDepth 100000
set_option maxHeartbeats 1000000
/-! The checker of expressions: a text against a term. -/
namespace PL
open PySem PySem.Spec PyProof.Rows L2
structure Cc where
  N : List Str
  sc : Scope
  calm : Bool
  hot : Bool
  blk : Bool
def visB (sc : Scope) (x : Str) : Bool := match sc.names.lookup x with
  | some .local => true
  | some .cell => true
  | some .free => true
  | _ => false
def gloB (sc : Scope) (x : Str) : Bool := match sc.names.lookup x with
  | some .globalImplicit => true
  | _ => false
def locB (sc : Scope) (x : Str) : Bool := match sc.names.lookup x with
  | some .local => true
  | _ => false
def celB (sc : Scope) (x : Str) : Bool := match sc.names.lookup x with
  | some .cell => true
  | _ => false
def dbgB (x : Str) : Bool := !(x == ("__debug__" : Str))
def cdB (x : Str) : Bool := !(x == ("__classdict__" : Str))
def stB (c : Cc) (x : Str) : Bool := locB c.sc x || (!c.blk && celB c.sc x)
/-- the name is slot i's -/
def varB (c : Cc) (i : Nat) (x : Str) : Bool := decide (c.N[i]? = some x) && (visB c.sc x && (dbgB x && cdB x))
/-- a global name -/
def glB (c : Cc) (x : Str) : Bool := gloB c.sc x && dbgB x
def freeNames : List Str := ["len", "abs", "int", "str", "sum", "list", "tuple", "sorted", "max", "min", "isinstance", "bool", "range", "reversed", "ValueError", "set"]
def glbIs : Sum Int Str → D → Bool
  | .inl i, .int j => decide (i = j)
  | .inr x, .str y => decide (x = y)
  | _, _ => false
def isZero : E → Bool
  | .int i => decide (i = 0)
  | _ => false
def ownP (c : Cc) (own : List Nat) : List (Str × Nat) := own.filterMap fun i => (c.N[i]?).map fun x => (x, i)
def cBlk (c : Cc) (scope : Scope) : Cc := { c with sc := relS scope c.sc, blk := true }

mutual
def cE (T : Tab) : Nat → Cc → Expr → E → Bool
  | 0, _, _, _ => false
  | n + 1, c, x, .non => (match x with
    | .Constant .none _ _ => true
    | _ => false)
  | n + 1, c, x, .bl b => (match x with
    | .Constant (.bool b') _ _ => decide (b' = b)
    | _ => false)
  | n + 1, c, x, .int i => (match x with
    | .Constant (.int j) _ _ => decide (j = i)
    | _ => false)
  | n + 1, c, x, .str z => (match x with
    | .Constant (.str y) _ _ => decide (y = z)
    | _ => false)
  | n + 1, c, x, .v i => (match x with
    | .Name y _ => varB c i y
    | _ => false)
  | n + 1, c, x, .g j d => (match x with
    | .Name y _ => (match T.glb[j]? with
      | some (y', v) => decide (y' = y) && (glB c y && glbIs v d)
      | none => false)
    | _ => false)
  | n + 1, c, x, .neg a => (match x with
    | .UnaryOp .USub y _ => cE T n c y a
    | _ => false)
  | n + 1, c, x, .not a => (match x with
    | .UnaryOp .Not y _ => cE T n c y a
    | _ => false)
  | n + 1, c, x, .and a b => (match x with
    | .BoolOp .And (y :: z :: zs) _ => cE T n c y a && cBo T n c .And (z :: zs) b
    | _ => false)
  | n + 1, c, x, .or a b => (match x with
    | .BoolOp .Or (y :: z :: zs) _ => cE T n c y a && cBo T n c .Or (z :: zs) b
    | _ => false)
  | n + 1, c, x, .bin o a b => (match x with
    | .BinOp y op z _ => decide (op = opOf o) && (cQ T n c y a && cQ T n c z b)
    | _ => false)
  | n + 1, c, x, .cmp o a b => (match x with
    | .Compare y [op] [z] _ => decide (op = cmpOf o) && (cO T n c y a && (cO T n c z b && !behindInMarks (cmpOf o) z))
    | _ => false)
  | n + 1, c, x, .ch2 o o' a b d => (match x with
    | .Compare y [op, op'] [z, w] _ => decide (op = cmpOf o) && (decide (op' = cmpOf o') && (cO T n c y a && (cO T n c z b && (cO T n c w d && !lastMarks [cmpOf o, cmpOf o'] [z, w]))))
    | _ => false)
  | n + 1, c, x, .ch3 o o' o'' a b d e => (match x with
    | .Compare y [op, op', op''] [z, w, v] _ => decide (op = cmpOf o) && (decide (op' = cmpOf o') && (decide (op'' = cmpOf o'') && (cO T n c y a && (cO T n c z b && (cO T n c w d && (cO T n c v e && !lastMarks [cmpOf o, cmpOf o', cmpOf o''] [z, w, v]))))))
    | _ => false)
  | n + 1, c, x, .tup es => (match x with
    | .Tuple ys _ _ => cEs T n c ys es
    | _ => false)
  | n + 1, c, x, .lst es => (match x with
    | .List ys _ => cEs T n c ys es
    | _ => false)
  | n + 1, c, x, .ix a i => (match x with
    | .Subscript y z _ => noSlice z && (cO T n c y a && cO T n c z i)
    | _ => false)
  | n + 1, c, x, .sl a lo hi => (match x with
    | .Subscript y (.Slice l h none _) _ => cO T n c y a && (cOp T n c l lo && cOp T n c h hi)
    | _ => false)
  | n + 1, c, x, .call f es => (match x with
    | .Call (.Name y _) ys [] _ => (c.calm || (c.hot && !ys.isEmpty)) && (match T.fns[f]? with
      | some fi => (c.calm || fi.hot) && (decide (fi.at_ = .glo) && (decide (fi.name = y) && (glB c y && (ys.all noStar && cAs T n c fi.fn.pm ys es))))
      | none => false)
    | _ => false)
  | n + 1, c, x, .mth k f o es => (match x with
    | .Call (.Attribute y m ap) ys [] p => c.calm && (match T.fns[f]? with
      | some fi => decide (fi.at_ = .meth k) && (decide (fi.name = m) && (noSup y && (decide (ap.endLine = p.line) && (decide (ys.length < 29) && (ys.all noStar && (cE T n c y o && cAs T n c fi.fn.pm.tail ys es))))))
      | none => false)
    | _ => false)
  | n + 1, c, x, .mk f es => (match x with
    | .Call (.Name y _) (y0 :: ys) [] _ => c.calm && (match T.fns[f]? with
      | some fi => (match fi.at_ with
        | .ini k => (match T.cls[k]? with
          | some ci => decide (ci.name = y) && (glB c y && ((y0 :: ys).all noStar && cAs T n c fi.fn.pm (y0 :: ys) es))
          | none => false)
        | _ => false)
      | none => false)
    | _ => false)
  | n + 1, c, x, .fld o k j => (match x with
    | .Attribute y m _ => noSup y && (cE T n c y o && (match T.cls[k]? with
      | some ci => decide (ci.fields[j]? = some m)
      | none => false))
    | _ => false)
  | n + 1, c, x, .xf i k j => (match x with
    | .Attribute (.Name y _) m _ => varB c i y && (match T.exs[k]? with
      | some xi => decide (xi.fields[j]? = some m)
      | none => false)
    | _ => false)
  | n + 1, c, x, .sf i k j => (match x with
    | .Attribute (.Name y _) m _ => varB c i y && (match T.cls[k]? with
      | some ci => decide (ci.fields[j]? = some m)
      | none => false)
    | _ => false)
  | n + 1, c, x, .isx i => (match x with
    | .Call (.Name y _) [.Name z _, .Name w _] [] _ => decide (y = "isinstance") && (glB c y && (decide (w = "ValueError") && (glB c w && varB c i z)))
    | _ => false)
  | n + 1, c, x, .b1 b a => (match x with
    | .Call (.Name y _) [z] [] _ => plainB1 b && ((hotB1 b || c.calm) && (decide (y = b1Name b) && (glB c y && (noStar z && cO T n c z a))))
    | .Call (.Name y _) [z] [⟨some k, .Constant (.bool true) _ _, _⟩] _ => !plainB1 b && (c.calm && (decide (y = "sorted") && (decide (k = "reverse") && (glB c y && (noStar z && cO T n c z a)))))
    | _ => false)
  | n + 1, c, x, .b2 b a d => (match x with
    | .Call (.Name y _) [z, w] [] _ => c.calm && (decide (y = b2Name b) && (glB c y && (noStar z && (noStar w && (cO T n c z a && cO T n c w d)))))
    | _ => false)
  | n + 1, c, x, .isi a t => (match x with
    | .Call (.Name y _) [z, .Name w _] [] _ => decide (y = "isinstance") && (glB c y && (decide (w = tyName t) && (glB c w && (noStar z && cO T n c z a))))
    | _ => false)
  | n + 1, c, x, .m1 m o a => (match x with
    | .Call (.Attribute y nm ap) [z] [] p => decide (nm = m1Name m) && (noSup y && (noStar z && (decide (ap.endLine = p.line) && (cE T n c y o && cO T n c z a))))
    | _ => false)
  | n + 1, c, x, .comp tg it cs el own => (match x with
    | .ListComp elt [⟨tg', iter, ifs, a⟩] scope _ => decide (a = 0) && (c.calm && (noSet iter && (cIC T n c tg' iter it && cBk T n c scope tg' ifs elt tg cs el own)))
    | _ => false)
  | n + 1, c, x, .fmt a => (match x with
    | .FormattedValue y v none _ => decide (v = -1) && cE T n c y a
    | _ => false)
  | n + 1, c, x, .js es => (match x with
    | .JoinedStr (y :: z :: ys) _ => cJs T n c (y :: z :: ys) es
    | _ => false)
  | n + 1, c, x, .fz a => cE T n c x a
  | n + 1, c, x, .lidx o a => (match x with
    | .Call (.Attribute y nm ap) [z] [] p => decide (nm = "index") && (noSup y && (noStar z && (decide (ap.endLine = p.line) && (cO T n c y o && cE T n c z a))))
    | _ => false)
  | n + 1, c, x, .lrg2 a b => (match x with
    | .Call (.Name y _) [.Call (.Name z _) [u, w] [] _] [] _ => c.calm && (decide (y = "list") && (glB c y && (decide (z = "range") && (glB c z && (noStar u && (noStar w && (cE T n c u a && cE T n c w b)))))))
    | _ => false)
  | n + 1, c, x, .sset o => (match x with
    | .Call (.Name y _) [.Call (.Name z _) [w] [] _] [] _ => c.calm && (decide (y = "sorted") && (glB c y && (decide (z = "set") && (glB c z && (noStar w && cO T n c w o)))))
    | _ => false)
  | n + 1, c, x, .lrg a => (match x with
    | .Call (.Name y _) [.Call (.Name z _) [w] [] _] [] _ => c.calm && (decide (y = "list") && (glB c y && (decide (z = "range") && (glB c z && (noStar w && cE T n c w a)))))
    | _ => false)
/-- an f-string's parts -/
def cJs (T : Tab) : Nat → Cc → List Expr → List E → Bool
  | 0, _, _, _ => false
  | n + 1, c, [], [] => true
  | n + 1, c, x :: xs, e :: es => cE T n c x e && cJs T n c xs es
  | _, _, _, _ => false
/-- a comprehension's block -/
def cBk (T : Tab) : Nat → Cc → Scope → Expr → List Expr → Expr → Tg → List PL.T → E → List Nat → Bool
  | 0, _, _, _, _, _, _, _, _, _ => false
  | n + 1, c, scope, tg', ifs, elt, tg, cs, el, own => blkC c.N c.sc scope (ownP c own) && (decide ((ownP c own).map (·.2) = own) && (tgB c.N (fun x => stB (cBlk c scope) x || celB scope x) tg' tg && ((tgIx tg).all (fun i => decide (i ∈ own)) && (cE T n (cBlk c scope) elt el && (match ifs, cs with
    | [], [] => true
    | [y], [t] => cT T n (cBlk c scope) y t
    | _, _ => false)))))
/-- and, or: the rest, as values -/
def cBo (T : Tab) : Nat → Cc → BoolOp → List Expr → E → Bool
  | 0, _, _, _, _ => false
  | n + 1, c, op, [y], t => cE T n c y t
  | n + 1, c, .And, y :: z :: zs, .and a b => cE T n c y a && cBo T n c .And (z :: zs) b
  | n + 1, c, .Or, y :: z :: zs, .or a b => cE T n c y a && cBo T n c .Or (z :: zs) b
  | _, _, _, _, _ => false
def cO (T : Tab) : Nat → Cc → Expr → O → Bool
  | 0, _, _, _ => false
  | n + 1, c, x, .s i => (match x with
    | .Name y _ => varB c i y
    | _ => false)
  | n + 1, c, x, .e e => cE T n c x e
def cQ (T : Tab) : Nat → Cc → Expr → O → Bool
  | 0, _, _, _ => false
  | n + 1, c, x, .s i => (match x with
    | .Name y _ => varB c i y
    | _ => false)
  | n + 1, c, x, .e e => cE T n c x e
def cEs (T : Tab) : Nat → Cc → List Expr → List E → Bool
  | 0, _, _, _ => false
  | n + 1, c, [], [] => true
  | n + 1, c, x :: xs, e :: es => noStar x && (cE T n c x e && cEs T n c xs es)
  | _, _, _, _ => false
def cAs (T : Tab) : Nat → Cc → List Bool → List Expr → List A → Bool
  | 0, _, _, _, _ => false
  | n + 1, c, [], [], [] => true
  | n + 1, c, true :: ms, x :: xs, .p o :: es => noStar x && (cO T n c x o && cAs T n c ms xs es)
  | n + 1, c, false :: ms, x :: xs, .e e :: es => noStar x && (cE T n c x e && cAs T n c ms xs es)
  | _, _, _, _, _ => false
def cOp (T : Tab) : Nat → Cc → Option Expr → Option E → Bool
  | 0, _, _, _ => false
  | n + 1, c, none, none => true
  | n + 1, c, some x, some e => cE T n c x e
  | _, _, _, _ => false
def cT (T : Tab) : Nat → Cc → Expr → PL.T → Bool
  | 0, _, _, _ => false
  | n + 1, c, x, .v o => plainT x && cO T n c x o
  | n + 1, c, x, .not a => (match x with
    | .UnaryOp .Not y _ => cT T n c y a
    | _ => false)
  | n + 1, c, x, .and a b => (match x with
    | .BoolOp .And (y :: z :: zs) _ => cT T n c y a && cW T n c .And (z :: zs) b
    | _ => false)
  | n + 1, c, x, .or a b => (match x with
    | .BoolOp .Or (y :: z :: zs) _ => cT T n c y a && cW T n c .Or (z :: zs) b
    | _ => false)
  | n + 1, c, x, .cmp o a b => (match x with
    | .Compare y [op] [z] _ => decide (op = cmpOf o) && (cO T n c y a && (cO T n c z b && !behindInMarks (cmpOf o) z))
    | _ => false)
  | n + 1, c, x, .ch2 o o' a b d => (match x with
    | .Compare y [op, op'] [z, w] _ => decide (op = cmpOf o) && (decide (op' = cmpOf o') && (cO T n c y a && (cO T n c z b && (cO T n c w d && !lastMarks [cmpOf o, cmpOf o'] [z, w]))))
    | _ => false)
  | n + 1, c, x, .ch3 o o' o'' a b d e => (match x with
    | .Compare y [op, op', op''] [z, w, v] _ => decide (op = cmpOf o) && (decide (op' = cmpOf o') && (decide (op'' = cmpOf o'') && (cO T n c y a && (cO T n c z b && (cO T n c w d && (cO T n c v e && !lastMarks [cmpOf o, cmpOf o', cmpOf o''] [z, w, v]))))))
    | _ => false)
/-- and, or: the rest, as a test -/
def cW (T : Tab) : Nat → Cc → BoolOp → List Expr → PL.T → Bool
  | 0, _, _, _, _ => false
  | n + 1, c, op, [y], t => cT T n c y t
  | n + 1, c, .And, y :: z :: zs, .and a b => cT T n c y a && cW T n c .And (z :: zs) b
  | n + 1, c, .Or, y :: z :: zs, .or a b => cT T n c y a && cW T n c .Or (z :: zs) b
  | _, _, _, _, _ => false
/-- a comprehension's source -/
def cIC (T : Tab) : Nat → Cc → Expr → Expr → PL.It → Bool
  | 0, _, _, _, _ => false
  | n + 1, c, tg, x, .sq o => cO T n c x o
  | n + 1, c, tg, x, .rev o => (match x with
    | .Call (.Name y _) [z] [] _ => decide (y = "reversed") && (glB c y && (noStar z && cO T n c z o))
    | _ => false)
  | n + 1, c, tg, x, it => cIF T n c tg x it
/-- a for's source -/
def cIF (T : Tab) : Nat → Cc → Expr → Expr → PL.It → Bool
  | 0, _, _, _, _ => false
  | n + 1, c, tg, x, .r1 a => (match x with
    | .Call (.Name y _) [z] [] _ => decide (y = "range") && (glB c y && (noStar z && cE T n c z a))
    | _ => false)
  | n + 1, c, tg, x, .r2 a b => (match x with
    | .Call (.Name y _) [z, w] [] _ => decide (y = "range") && (glB c y && (noStar z && (noStar w && (cE T n c z a && cE T n c w b))))
    | _ => false)
  | n + 1, c, tg, x, .r3 a b k => (match x with
    | .Call (.Name y _) [z, w, v] [] _ => decide (y = "range") && (glB c y && (noStar z && (noStar w && (noStar v && (cE T n c z a && (cE T n c w b && cE T n c v k))))))
    | _ => false)
  | n + 1, c, tg, x, .revr a b => (match x with
    | .Call (.Name r _) [.Call (.Name y _) [z, w] [] _] [] _ => decide (r = "reversed") && (glB c r && (decide (y = "range") && (glB c y && (noStar z && (noStar w && (cE T n c z a && cE T n c w b))))))
    | .Call (.Name r _) [.Call (.Name y _) [w] [] _] [] _ => decide (r = "reversed") && (glB c r && (decide (y = "range") && (glB c y && (noStar w && (isZero a && cE T n c w b)))))
    | _ => false)
  | n + 1, c, tg, x, .sq (.s i) => (match x with
    | .Name y _ => varB c i y
    | _ => false)
  | n + 1, c, tg, x, .sq (.e e) => cE T n c x e
  | n + 1, c, tg, x, .rev (.s i) => (match x with
    | .Call (.Name r _) [.Name y _] [] _ => decide (r = "reversed") && (glB c r && varB c i y)
    | _ => false)
  | n + 1, c, tg, x, .rev (.e e) => (match x with
    | .Call (.Name r _) [z] [] _ => decide (r = "reversed") && (glB c r && (noStar z && cE T n c z e))
    | _ => false)
end
end PL

set_option linter.all false
set_option Elab.async false
set_option maxRecDepth 100000
set_option maxHeartbeats 4000000
/-! The checker of expressions is right. -/
namespace PL
open PySem PySem.Spec PyProof.Rows L2
/-- what holds of the program's names -/
structure Kf (X : Cx) (T : Tab) (ca xa : Nat → Addr) (K : Ctx) : Prop where
  wd : WdX X
  un : X.A.units + 66 < cLine
  fn : X.calm = true → ∀ (f : Nat) fi, T.fns[f]? = some fi → fi.at_ = .glo → ∃ k a fd, FnOk X.prog X.w X.K X.mg X.base (L2N.CX X.prog X.w) k a fd fi.ps (spF (PX X T ca xa) (K.callx f) fi.fn.pm fi.ps.length) ∧ Room k X.A ∧ X.mg fi.name = some (.ref a) ∧ PySem.W.keepIn X.K (.ref a) = true ∧ Binds X.K fd fi.ps [] ∧ fi.fn.pm.length = fi.ps.length
  fnh : ∀ (f : Nat) fi, T.fns[f]? = some fi → fi.at_ = .glo → fi.hot = true → ∃ k a fd, L2H.FnH X.prog X.w X.K X.mg X.base (L2N.CX X.prog X.w) k a fd fi.ps (spF (PX X T ca xa) (K.callx f) fi.fn.pm fi.ps.length) ∧ L2H.RoomH k X.A ∧ X.mg fi.name = some (.ref a) ∧ PySem.W.keepIn X.K (.ref a) = true ∧ Binds X.K fd fi.ps [] ∧ fi.fn.pm.length = fi.ps.length
  mt : X.calm = true → ∀ (f : Nat) fi c, T.fns[f]? = some fi → fi.at_ = .meth c → ∃ pm ci k a fd, fi.fn.pm = false :: pm ∧ T.cls[c]? = some ci ∧ fi.name ∉ ci.fields ∧ Cls X.K (ca c) ∧ Meth X.K (ca c) fi.name a ∧ FnOk X.prog X.w X.K X.mg X.base (L2N.CX X.prog X.w) k a fd fi.ps (spF (PX X T ca xa) (K.callx f) (false :: pm) fi.ps.length) ∧ Room k X.A ∧ Binds X.K fd fi.ps [] ∧ pm.length + 1 = fi.ps.length
  ini : X.calm = true → ∀ (f : Nat) fi c ci, T.fns[f]? = some fi → fi.at_ = .ini c → T.cls[c]? = some ci → ∃ k a fd, Mk X.K (ca c) a ∧ X.mg ci.name = some (.ref (ca c)) ∧ FnOk X.prog X.w X.K X.mg X.base (L2N.CX X.prog X.w) k a fd fi.ps (spI (PX X T ca xa) c (K.call f) fi.fn.pm fi.ps.length) ∧ Room (k + 1) X.A ∧ Binds X.K fd fi.ps [] ∧ fi.fn.pm.length + 1 = fi.ps.length
  cls : ∀ c ci, T.cls[c]? = some ci → Cls X.K (ca c) ∧ (∀ n ∈ ci.fields, NoAttr X.K (ca c) n) ∧ ci.fields.Nodup
  glb : ∀ (j : Nat) nm v, T.glb[j]? = some (nm, v) → match v with
    | .inl i => ∃ t, X.mg nm = some (.int i t)
    | .inr z => ∃ t, X.mg nm = some (.str z t)
  free : ∀ nm ∈ freeNames, X.mg nm = none
  exc : ∀ (k : Nat) xi, T.exs[k]? = some xi → X.mg xi.name = some (.ref (xa k)) ∧ (xi.fields = [] → Xo X T xa k xi.name) ∧ (xi.fields ≠ [] → X.calm = true → Xi X T xa k xi.name xi.fields.length) ∧ XfC X.K (xa k) ∧ (∀ n ∈ xi.fields, PySem.W.findIn X.K (.ref (xa k)) n = some none) ∧ PySem.W.kitCls X.K (.ref (xa k)) (.type "ValueError") = some true
  exm : ∀ (h : Nat) xh, T.exs[h]? = some xh → ∀ (k : Nat) xi, T.exs[k]? = some xi → PySem.W.exmOne X.K (.ref (xa k)) (.ref (xa h)) = some (PL.exm k h)
/-- what holds of the frame -/
structure Cok (X : Cx) (c : Cc) (cx : Hand) (W : WX) : Prop where
  N : X.N = c.N
  nd : X.N.Nodup
  sc : X.env.scope = c.sc
  kind : X.env.scope.kind = .function
  calm : c.calm = true → X.calm = true
  st : StB X (stB c)
  tk : L2N.Takes X W
  hotc : c.hot = true → c.calm = false → L2H.HotC X
  cold : c.calm = true → cx.ex = none
  hand : ∀ a cls d, cx.ex = some (a, cls, d) → ∃ oe, (a, oe) ∈ X.pn ∧ L2N.Zn cls d oe ∧ ∃ vs, oe.data = .fields vs
section
variable {X : Cx} {T : Tab} {ca xa : Nat → Addr} {cx : Hand} {G0 H0 : Hp} {W : WX} {c : Cc} {K : Ctx}
theorem se_congr {e : Expr} {f g : Env → Res Vl} (h : SE X T ca xa cx G0 H0 W e f) (q : ∀ env, f env = g env) : SE X T ca xa cx G0 H0 W e g := by
  have : f = g := funext q
  rw [← this]
  exact h
theorem visB_ok {sc : Scope} {x : Str} (h : visB sc x = true) : Vis sc x := by
  unfold visB at h
  split at h
  · rename_i e; exact .inl e
  · rename_i e; exact .inr (.inl e)
  · rename_i e; exact .inr (.inr e)
  · cases h
theorem Cok.vis (C : Cok X c cx W) {x : Str} (h : visB c.sc x = true) : Vis X.env.scope x := by rw [C.sc]; exact visB_ok h
theorem Cok.gl (C : Cok X c cx W) {x : Str} (h : gloB c.sc x = true) : Gl X x := by
  unfold gloB at h
  split at h
  · rename_i e
    show X.env.scope.names.lookup x = _
    rw [C.sc]
    exact e
  · cases h
theorem dbg_ok {x : Str} (h : dbgB x = true) : (x == ("__debug__" : Str)) = false := by
  unfold dbgB at h
  simpa using h
theorem cd_ok {x : Str} (h : cdB x = true) : (x == ("__classdict__" : Str)) = false := by
  unfold cdB at h
  simpa using h
theorem Cok.glo (C : Cok X c cx W) {x : Str} (h : glB c x = true) : Gl X x ∧ (x == ("__debug__" : Str)) = false := by
  unfold glB at h
  obtain ⟨h1, h2⟩ := Bool.and_eq_true_iff.mp h
  exact ⟨C.gl h1, dbg_ok h2⟩
theorem Cok.var (C : Cok X c cx W) {x : Str} {i : Nat} (h : varB c i x = true) : X.N[i]? = some x ∧ Vis X.env.scope x ∧ (x == ("__debug__" : Str)) = false ∧ (x == ("__classdict__" : Str)) = false := by
  unfold varB at h
  simp only [Bool.and_eq_true, decide_eq_true_eq] at h
  obtain ⟨h1, h2, h3, h4⟩ := h
  exact ⟨by rw [C.N]; exact h1, C.vis h2, dbg_ok h3, cd_ok h4⟩
/-- the claims of a level -/
structure SndE (n : Nat) (T : Tab) (ca xa : Nat → Addr) (K : Ctx) : Prop where
  e : ∀ {X : Cx} {c : Cc} {cx : Hand} {W : WX} {G0 H0 : Hp} {x : Expr} {t : E}, Kf X T ca xa K → Cok X c cx W → cE T n c x t = true → SE X T ca xa cx G0 H0 W x (ev K t)
  bo : ∀ {X : Cx} {c : Cc} {cx : Hand} {W : WX} {G0 H0 : Hp} {o : BoolOp} {ys : List Expr} {p : Pos} {t : E}, Kf X T ca xa K → Cok X c cx W → cBo T n c o ys t = true → SE X T ca xa cx G0 H0 W (.BoolOp o ys p) (ev K t)
  o : ∀ {X : Cx} {c : Cc} {cx : Hand} {W : WX} {G0 H0 : Hp} {x : Expr} {t : O}, Kf X T ca xa K → Cok X c cx W → cO T n c x t = true → SP' X T ca xa cx G0 H0 W x (po K t)
  q : ∀ {X : Cx} {c : Cc} {cx : Hand} {W : WX} {G0 H0 : Hp} {x : Expr} {t : O}, Kf X T ca xa K → Cok X c cx W → cQ T n c x t = true → SQ X T ca xa cx G0 H0 W x (pt K t)
  es : ∀ {X : Cx} {c : Cc} {cx : Hand} {W : WX} {G0 H0 : Hp} {x : List Expr} {t : List E}, Kf X T ca xa K → Cok X c cx W → cEs T n c x t = true → SA X T ca xa cx G0 H0 W x (evs K t)
  as_ : ∀ {X : Cx} {c : Cc} {cx : Hand} {W : WX} {G0 H0 : Hp} {ms : List Bool} {x : List Expr} {t : List A}, Kf X T ca xa K → Cok X c cx W → cAs T n c ms x t = true → SAR X T ca xa cx G0 H0 W ms x (args K t)
  js : ∀ {X : Cx} {c : Cc} {cx : Hand} {W : WX} {G0 H0 : Hp} {x : List Expr} {t : List E}, Kf X T ca xa K → Cok X c cx W → cJs T n c x t = true → SJ X T ca xa cx G0 H0 W x (js K t)
  op : ∀ {X : Cx} {c : Cc} {cx : Hand} {W : WX} {G0 H0 : Hp} {x : Option Expr} {t : Option E}, Kf X T ca xa K → Cok X c cx W → cOp T n c x t = true → SO X T ca xa cx G0 H0 W x (part K t)
  t : ∀ {X : Cx} {c : Cc} {cx : Hand} {W : WX} {G0 H0 : Hp} {x : Expr} {t : PL.T}, Kf X T ca xa K → Cok X c cx W → cT T n c x t = true → ST X T ca xa cx G0 H0 W x (tv K t)
  w : ∀ {X : Cx} {c : Cc} {cx : Hand} {W : WX} {G0 H0 : Hp} {o : BoolOp} {ys : List Expr} {p : Pos} {t : PL.T}, Kf X T ca xa K → Cok X c cx W → cW T n c o ys t = true → SW X T ca xa cx G0 H0 W (.BoolOp o ys p) (tv K t)
  ic : ∀ {X : Cx} {c : Cc} {cx : Hand} {W : WX} {G0 H0 : Hp} {tg x : Expr} {t : PL.It}, Kf X T ca xa K → Cok X c cx W → cIC T n c tg x t = true → SIC X T ca xa cx G0 H0 W tg x (its K t)
  ifr : ∀ {X : Cx} {c : Cc} {cx : Hand} {W : WX} {G0 H0 : Hp} {tg x : Expr} {t : PL.It}, Kf X T ca xa K → Cok X c cx W → cIF T n c tg x t = true → SIF X T ca xa cx G0 H0 W tg x (itsF K t)
  bk : ∀ {X : Cx} {c : Cc} {cx : Hand} {W : WX} {G0 H0 : Hp} {scope : Scope} {tg' elt : Expr} {ifs : List Expr} {tg : Tg} {cs : List PL.T} {el : E} {own : List Nat}, Kf X T ca xa K → Cok X c cx W → c.calm = true → cBk T n c scope tg' ifs elt tg cs el own = true →
    BlkOk X.N X.env.scope scope (ownP c own) ∧ (ownP c own).map (·.2) = own ∧ (∀ i ∈ tgIx tg, i ∈ own) ∧ BlkT X T ca xa cx G0 H0 scope tg' tg ifs elt (tvs K cs) (ev K el)

theorem Kf.tr (F : Kf X T ca xa K) (pn : List (Addr × Obj)) (xe : Value → Shared → Prop) : Kf (X.tr pn xe) T ca xa K := ⟨⟨F.wd.stat, F.wd.mods, F.wd.main, F.wd.tree, F.wd.top, F.wd.dep⟩, F.un, F.fn, F.fnh, F.mt, F.ini, F.cls, F.glb, F.free, fun k xi h => by
  obtain ⟨h1, h2, h3, h4, h5⟩ := F.exc k xi h
  exact ⟨h1, fun e => ⟨(h2 e).at_, (h2 e).q, (h2 e).g, (h2 e).kp, (h2 e).r⟩, fun e hc => ⟨(h3 e hc).at_⟩, h4, h5⟩, F.exm⟩
theorem Kf.blk (F : Kf X T ca xa K) (s : Shared) (H : Hp) (scope : Scope) (env : PySem.Env) (fp : List Addr) : Kf (X.blk s H scope env fp) T ca xa K := ⟨⟨F.wd.stat, F.wd.mods, F.wd.main, F.wd.tree, F.wd.top, F.wd.dep⟩, F.un, F.fn, F.fnh, F.mt, F.ini, F.cls, F.glb, F.free, fun k xi h => by
  obtain ⟨h1, h2, h3, h4, h5⟩ := F.exc k xi h
  exact ⟨h1, fun e => ⟨(h2 e).at_, (h2 e).q, (h2 e).g, (h2 e).kp, (h2 e).r⟩, fun e hc => ⟨(h3 e hc).at_⟩, h4, h5⟩, F.exm⟩
theorem Kf.suite (F : Kf X T ca xa K) (a : Addr) (pn : List (Addr × Obj)) : Kf (X.suite a pn) T ca xa K := ⟨⟨F.wd.stat, F.wd.mods, F.wd.main, F.wd.tree, F.wd.top, F.wd.dep⟩, F.un, (fun z => nomatch z), (fun f fi h1 h2 h3 => by
    obtain ⟨k, a2, fd, q1, q2, q3⟩ := F.fnh f fi h1 h2 h3
    exact ⟨k, a2, fd, q1, ⟨q2.dp, q2.un⟩, q3⟩), (fun z => nomatch z), (fun z => nomatch z), F.cls, F.glb, F.free, fun k xi h => by
  obtain ⟨h1, h2, h3, h4, h5⟩ := F.exc k xi h
  exact ⟨h1, fun e => ⟨(h2 e).at_, (h2 e).q, (h2 e).g, (h2 e).kp, (h2 e).r⟩, fun _ z => (nomatch z), h4, h5⟩, F.exm⟩
theorem Kf.fn_at (F : Kf X T ca xa K) (hc : X.calm = true) (tk : L2N.Takes X W) {f : Nat} {fi : FnI} (h : T.fns[f]? = some fi) (ha : fi.at_ = .glo) : FnAt X T ca xa W fi.name (K.callx f) fi.fn.pm := by
  obtain ⟨k, a, fd, h1, h2, h3, h4, h5, h6⟩ := F.fn hc f fi h ha
  exact ⟨tk, k, a, fd, fi.ps, h1, h2, h3, h4, h5, h6⟩
theorem Kf.fnh_at (F : Kf X T ca xa K) (hc : L2H.HotC X) (tk : L2N.Takes X W) {f : Nat} {fi : FnI} (h : T.fns[f]? = some fi) (ha : fi.at_ = .glo) (hh : fi.hot = true) : FnHAt X T ca xa W fi.name (K.callx f) fi.fn.pm := by
  obtain ⟨k, a, fd, h1, h2, h3, h4, h5, h6⟩ := F.fnh f fi h ha hh
  exact ⟨tk, hc, k, a, fd, fi.ps, h1, h2, h3, h4, h5, h6⟩
theorem Kf.mt_at (F : Kf X T ca xa K) (hc : X.calm = true) (tk : L2N.Takes X W) {f c : Nat} {fi : FnI} (h : T.fns[f]? = some fi) (ha : fi.at_ = .meth c) : MtAt X T ca xa W c fi.name (K.callx f) fi.fn.pm.tail := by
  obtain ⟨pm, ci, k, a, fd, h0, h1, h2, h3, h4, h5, h6, h7, h8⟩ := F.mt hc f fi c h ha
  rw [h0]
  exact ⟨tk, ci, k, a, fd, fi.ps, h1, h2, h3, h4, h5, h6, h7, h8⟩
theorem Kf.mk_at (F : Kf X T ca xa K) (hc : X.calm = true) (tk : L2N.Takes X W) {f c : Nat} {fi : FnI} {ci : ClI} (h : T.fns[f]? = some fi) (ha : fi.at_ = .ini c) (h2 : T.cls[c]? = some ci) : MkAt X T ca xa W ci.name c (K.call f) fi.fn.pm := by
  obtain ⟨k, a, fd, h3, h4, h5, h6, h7, h8⟩ := F.ini hc f fi c ci h ha h2
  exact ⟨tk, k, a, fd, fi.ps, h3, h4, h5, h6, h7, h8⟩
theorem Kf.cls_ok (F : Kf X T ca xa K) {k : Nat} {ci : ClI} (h : T.cls[k]? = some ci) : ClsOk X T ca k ci := ⟨h, (F.cls k ci h).1, (F.cls k ci h).2.1⟩
theorem b1_free (b : B1) : b1Name b ∈ freeNames := by cases b <;> decide
theorem b2_free (b : B2) : b2Name b ∈ freeNames := by cases b <;> decide
theorem ty_free (b : Ty) : tyName b ∈ freeNames := by cases b <;> decide
theorem Cok.blkc (C : Cok X c cx W) (hc : c.calm = true) (s : Shared) (H : Hp) (scope : Scope) (cl : List (Str × Addr)) (Ca : Addr) (fp : List Addr) (hk : scope.kind = .function) : Cok (X.blk s H scope (compEnvC scope cl Ca X.env) fp) (cBlk c scope) cx W0 where
  N := C.N
  nd := C.nd
  sc := by
    show relabel scope X.env = relS scope c.sc
    rw [← C.sc]
    rfl
  kind := hk
  calm := C.calm
  st := fun x h => by
    have h : (locB (relS scope c.sc) x || (!true && celB (relS scope c.sc) x)) = true := h
    simp only [Bool.not_true, Bool.false_and, Bool.or_false] at h
    unfold locB at h
    split at h
    · rename_i e
      have e2 : (relabel scope X.env).names.lookup x = some .local := by
        have : relabel scope X.env = relS scope c.sc := by rw [← C.sc]; rfl
        rw [this]
        exact e
      exact ⟨.inl e2, .inr e2⟩
    · cases h
  tk := fun u s' ⟨_, _, _, _, _, _, _, _, _, _, _, _, _, _, _, _, w⟩ => w.elim
  hotc := fun _ z => by
    have z : c.calm = false := z
    rw [hc] at z
    cases z
  cold := C.cold
  hand := fun a cls d e => by rw [C.cold hc] at e; cases e
theorem _root_.L2.PTs.imp {X : Cx} {e : List Expr} {t t' : TT} (h : PTs X e t) (i : ∀ σ H Q, t' σ H Q → t σ H Q) : PTs X e t' := ⟨fun pins s σ H Q I q => h.run pins s σ H Q I (i σ H Q q)⟩
theorem evs_len (K : Ctx) : ∀ {es : List E} {env : Env} {ds : List D}, evs K es env = .ok ds → ds.length = es.length
  | [], env, ds, h => by
    simp only [evs] at h
    cases h
    rfl
  | e :: es, env, ds, h => by
    simp only [evs] at h
    cases q : ev K e env with
    | bad => rw [q] at h; cases h
    | err k fs => rw [q] at h; cases h
    | ok x =>
      simp only [q, Res.bind_ok] at h
      cases q2 : evs K es env with
      | bad => rw [q2] at h; cases h
      | err k fs => rw [q2] at h; cases h
      | ok ds2 =>
        simp only [q2, Res.bind_ok] at h
        cases h
        rw [List.length_cons, List.length_cons, evs_len K q2]
theorem cEs_len {T : Tab} : ∀ {n : Nat} {c : Cc} {xs : List Expr} {es : List E}, cEs T n c xs es = true → xs.all noStar = true ∧ xs.length = es.length
  | 0, _, _, _, h => by simp [cEs] at h
  | n + 1, c, [], [], _ => ⟨rfl, rfl⟩
  | n + 1, c, x :: xs, e :: es, h => by
    simp only [cEs, Bool.and_eq_true] at h
    obtain ⟨h1, h2, h3⟩ := h
    obtain ⟨h4, h5⟩ := cEs_len h3
    exact ⟨by simp [h1, h4], by rw [List.length_cons, List.length_cons, h5]⟩
  | n + 1, c, [], _ :: _, h => by simp [cEs] at h
  | n + 1, c, _ :: _, [], h => by simp [cEs] at h
theorem snd_zero : SndE 0 T ca xa K where
  e := fun _ _ h => by simp [cE] at h
  bo := fun _ _ h => by simp [cBo] at h
  o := fun _ _ h => by simp [cO] at h
  q := fun _ _ h => by simp [cQ] at h
  es := fun _ _ h => by simp [cEs] at h
  js := fun _ _ h => by simp [cJs] at h
  as_ := fun _ _ h => by simp [cAs] at h
  op := fun _ _ h => by simp [cOp] at h
  t := fun _ _ h => by simp [cT] at h
  w := fun _ _ h => by simp [cW] at h
  ic := fun _ _ h => by simp [cIC] at h
  ifr := fun _ _ h => by simp [cIF] at h
  bk := fun _ _ _ h => by simp [cBk] at h
end
end PL

set_option linter.all false
set_option Elab.async false
set_option maxRecDepth 100000
set_option maxHeartbeats 4000000
/-! The step of the checker's proof. -/
namespace PL
open PySem PySem.Spec PyProof.Rows L2
section
variable {X : Cx} {T : Tab} {ca xa : Nat → Addr} {cx : Hand} {G0 H0 : Hp} {W : WX} {c : Cc} {K : Ctx} {n : Nat}
theorem ba {a b : Bool} (h : (a && b) = true) : a = true ∧ b = true := Bool.and_eq_true_iff.mp h
theorem step_e (S : SndE n T ca xa K) {x : Expr} {t : E} (F : Kf X T ca xa K) (C : Cok X c cx W) (h : cE T (n + 1) c x t = true) : SE X T ca xa cx G0 H0 W x (ev K t) := by
  cases t with
  | non =>
    simp only [cE] at h
    split at h
    · exact se_congr (s_const (d := .non) pe_non fun _ => .non) fun env => by simp only [ev] <;> rfl
    · cases h
  | bl b =>
    simp only [cE] at h
    split at h
    · obtain rfl := of_decide_eq_true h
      exact se_congr (s_const pe_bl fun _ => .bl _) fun env => by simp only [ev] <;> rfl
    · cases h
  | int b =>
    simp only [cE] at h
    split at h
    · obtain rfl := of_decide_eq_true h
      exact se_congr (s_const pe_int fun _ => .int _) fun env => by simp only [ev] <;> rfl
    · cases h
  | str b =>
    simp only [cE] at h
    split at h
    · obtain rfl := of_decide_eq_true h
      exact se_congr (s_const pe_str fun _ => .str _) fun env => by simp only [ev] <;> rfl
    · cases h
  | v i =>
    simp only [cE] at h
    split at h
    · obtain ⟨h1, h2, h3, h4⟩ := C.var h
      exact se_congr (s_var h1 h2 h3 h4) fun env => by simp only [ev] <;> rfl
    · cases h
  | g j d =>
    simp only [cE] at h
    split at h
    · split at h
      · rename_i y' v e
        obtain ⟨h1, h⟩ := ba h
        obtain ⟨h2, h3⟩ := ba h
        obtain rfl := of_decide_eq_true h1
        obtain ⟨g1, g2⟩ := C.glo h2
        have q := F.glb j _ _ e
        cases v with
        | inl i =>
          obtain ⟨t, q⟩ := q
          cases d with
          | int k =>
            obtain rfl := of_decide_eq_true (show decide (i = k) = true from h3)
            exact se_congr (s_const (pe_glob (v := .int i) g1 q ⟨t, rfl⟩ g2) fun _ => .int _) fun env => by simp only [ev] <;> rfl
          | _ => cases h3
        | inr z =>
          obtain ⟨t, q⟩ := q
          cases d with
          | str k =>
            obtain rfl := of_decide_eq_true (show decide (z = k) = true from h3)
            exact se_congr (s_const (pe_glob (v := .str z) g1 q ⟨t, rfl⟩ g2) fun _ => .str _) fun env => by simp only [ev] <;> rfl
          | _ => cases h3
      · cases h
    · cases h
  | neg a =>
    simp only [cE] at h
    split at h
    · exact se_congr (s_neg (S.e F C h)) fun env => by simp only [ev] <;> rfl
    · cases h
  | not a =>
    simp only [cE] at h
    split at h
    · exact se_congr (s_not (S.e F C h)) fun env => by simp only [ev] <;> rfl
    · cases h
  | and a b =>
    simp only [cE] at h
    split at h
    · obtain ⟨h1, h2⟩ := ba h
      exact se_congr (s_and (S.e F C h1) (S.bo F C h2)) fun env => by simp only [ev] <;> rfl
    · cases h
  | or a b =>
    simp only [cE] at h
    split at h
    · obtain ⟨h1, h2⟩ := ba h
      exact se_congr (s_or (S.e F C h1) (S.bo F C h2)) fun env => by simp only [ev] <;> rfl
    · cases h
  | bin o a b =>
    simp only [cE] at h
    split at h
    · obtain ⟨h1, h⟩ := ba h
      obtain ⟨h2, h3⟩ := ba h
      obtain rfl := of_decide_eq_true h1
      exact se_congr (s_bin F.wd (S.q F C h2) (S.q F C h3)) fun env => by simp only [ev] <;> rfl
    · cases h
  | cmp o a b =>
    simp only [cE] at h
    split at h
    · obtain ⟨h1, h⟩ := ba h
      obtain ⟨h2, h⟩ := ba h
      obtain ⟨h3, h4⟩ := ba h
      obtain rfl := of_decide_eq_true h1
      exact se_congr (s_cmp F.un (S.o F C h2) (S.o F C h3) (by simpa using h4)) fun env => by simp only [ev] <;> rfl
    · cases h
  | ch2 o o' a b d =>
    simp only [cE] at h
    split at h
    · obtain ⟨h1, h⟩ := ba h
      obtain ⟨h2, h⟩ := ba h
      obtain ⟨h3, h⟩ := ba h
      obtain ⟨h4, h⟩ := ba h
      obtain ⟨h5, h6⟩ := ba h
      obtain rfl := of_decide_eq_true h1
      obtain rfl := of_decide_eq_true h2
      exact se_congr (s_ch2 F.un (S.o F C h3) (S.o F C h4) (S.o F C h5) (by simpa using h6)) fun env => by simp only [ev] <;> rfl
    · cases h
  | ch3 o o' o'' a b d e =>
    simp only [cE] at h
    split at h
    · obtain ⟨h1, h⟩ := ba h
      obtain ⟨h2, h⟩ := ba h
      obtain ⟨h0, h⟩ := ba h
      obtain ⟨h3, h⟩ := ba h
      obtain ⟨h4, h⟩ := ba h
      obtain ⟨h5, h⟩ := ba h
      obtain ⟨h6, h7⟩ := ba h
      obtain rfl := of_decide_eq_true h1
      obtain rfl := of_decide_eq_true h2
      obtain rfl := of_decide_eq_true h0
      exact se_congr (s_ch3 F.un (S.o F C h3) (S.o F C h4) (S.o F C h5) (S.o F C h6) (by simpa using h7)) fun env => by simp only [ev] <;> rfl
    · cases h
  | tup es =>
    simp only [cE] at h
    split at h
    · exact se_congr (s_tup (S.es F C h)) fun env => by simp only [ev] <;> rfl
    · cases h
  | lst es =>
    simp only [cE] at h
    split at h
    · exact se_congr (s_lst (S.es F C h)) fun env => by simp only [ev] <;> rfl
    · cases h
  | ix a i =>
    simp only [cE] at h
    split at h
    · obtain ⟨h1, h⟩ := ba h
      obtain ⟨h2, h3⟩ := ba h
      exact se_congr (s_ix (S.o F C h2) (S.o F C h3) h1) fun env => by simp only [ev] <;> rfl
    · cases h
  | sl a lo hi =>
    simp only [cE] at h
    split at h
    · obtain ⟨h1, h⟩ := ba h
      obtain ⟨h2, h3⟩ := ba h
      exact se_congr (s_sl (S.o F C h1) (S.op F C h2) (S.op F C h3)) fun env => by simp only [ev] <;> rfl
    · cases h
  | call f es =>
    simp only [cE] at h
    split at h
    · rename_i y p ys pos
      obtain ⟨h0, h⟩ := ba h
      split at h
      · rename_i fi e
        obtain ⟨hh, h⟩ := ba h
        obtain ⟨h1, h⟩ := ba h
        obtain ⟨h2, h⟩ := ba h
        obtain ⟨h3, h⟩ := ba h
        obtain ⟨h4, h5⟩ := ba h
        obtain ⟨g1, g2⟩ := C.glo h3
        cases hcalm : c.calm with
        | false =>
          rw [hcalm, Bool.false_or] at h0 hh
          obtain ⟨t1, t2⟩ := ba h0
          have A := F.fnh_at (C.hotc t1 hcalm) C.tk e (of_decide_eq_true h1) hh
          obtain rfl := of_decide_eq_true h2
          cases ys with
          | nil => cases t2
          | cons y0 ys => exact se_congr (s_callH A g1 g2 (S.as_ F C h5) h4 (by simp)) fun env => by simp only [ev] <;> rfl
        | true =>
        have A := F.fn_at (C.calm hcalm) C.tk e (of_decide_eq_true h1)
        obtain rfl := of_decide_eq_true h2
        cases ys with
        | nil =>
          have q : fi.fn.pm = [] ∧ es = [] := by
            cases n with
            | zero => simp [cAs] at h5
            | succ m =>
              cases q : fi.fn.pm with
              | nil => cases es with
                | nil => exact ⟨rfl, rfl⟩
                | cons a b => rw [q] at h5; simp [cAs] at h5
              | cons a b => rw [q] at h5; cases a <;> cases es <;> simp [cAs] at h5
          rw [q.1] at A
          obtain rfl := q.2
          exact se_congr (s_call0 A g1 g2) fun env => by simp only [ev, args, Res.bind_ok] <;> rfl
        | cons y0 ys => exact se_congr (s_call A g1 g2 (S.as_ F C h5) h4 (by simp)) fun env => by simp only [ev] <;> rfl
      · cases h
    · cases h
  | mth k f o es =>
    simp only [cE] at h
    split at h
    · obtain ⟨h0, h⟩ := ba h
      split at h
      · rename_i fi e
        obtain ⟨h1, h⟩ := ba h
        obtain ⟨h2, h⟩ := ba h
        obtain ⟨h3, h⟩ := ba h
        obtain ⟨h4, h⟩ := ba h
        obtain ⟨h5, h⟩ := ba h
        obtain ⟨h6, h⟩ := ba h
        obtain ⟨h7, h8⟩ := ba h
        have A := F.mt_at (C.calm h0) C.tk e (of_decide_eq_true h1)
        obtain rfl := of_decide_eq_true h2
        refine se_congr (s_mth A (S.e F C h7) (S.as_ F C h8) h6 (of_decide_eq_true h5) h3 (beq_iff_eq.mpr (of_decide_eq_true h4)) fun ey => ?_) fun env => by simp only [ev] <;> rfl
        subst ey
        cases n with
        | zero => simp [cAs] at h8
        | succ m =>
          cases q : fi.fn.pm.tail with
          | nil =>
            cases es with
            | nil => exact ⟨rfl, fun env => by simp only [args]⟩
            | cons a b => rw [q] at h8; simp [cAs] at h8
          | cons a b => rw [q] at h8; cases a <;> cases es <;> simp [cAs] at h8
      · cases h
    · cases h
  | mk f es =>
    simp only [cE] at h
    split at h
    · obtain ⟨h0, h⟩ := ba h
      split at h
      · rename_i fi e
        split at h
        · rename_i k ek
          split at h
          · rename_i ci ec
            obtain ⟨h1, h⟩ := ba h
            obtain ⟨h2, h⟩ := ba h
            obtain ⟨h3, h4⟩ := ba h
            obtain rfl := of_decide_eq_true h1
            obtain ⟨g1, g2⟩ := C.glo h2
            exact se_congr (s_mk (F.mk_at (C.calm h0) C.tk e ek ec) g1 g2 (S.as_ F C h4) h3 (by simp)) fun env => by simp only [ev] <;> rfl
          · cases h
        · cases h
      · cases h
    · cases h
  | fld o k j =>
    simp only [cE] at h
    split at h
    · obtain ⟨h1, h⟩ := ba h
      obtain ⟨h2, h⟩ := ba h
      split at h
      · rename_i ci ec
        exact se_congr (s_fld (S.e F C h2) h1 (F.cls_ok ec) (of_decide_eq_true h)) fun env => by simp only [ev] <;> rfl
      · cases h
    · cases h
  | xf i k j =>
    simp only [cE] at h
    split at h
    · obtain ⟨h1, h⟩ := ba h
      split at h
      · rename_i xi ec
        obtain ⟨g1, g2, g3, g4⟩ := C.var h1
        have en := of_decide_eq_true h
        obtain ⟨_, _, _, q4, q5, _⟩ := F.exc k xi ec
        exact se_congr (s_xf g1 g2 g3 g4 q4 ec (q5 _ (List.mem_of_getElem? en)) en C.hand) fun env => by simp only [ev] <;> rfl
      · cases h
    · cases h
  | sf i k j =>
    simp only [cE] at h
    split at h
    · obtain ⟨h1, h⟩ := ba h
      split at h
      · rename_i ci ec
        obtain ⟨g1, g2, g3, g4⟩ := C.var h1
        exact se_congr (s_sf g1 g2 g3 g4 (F.cls_ok ec) (of_decide_eq_true h)) fun env => by simp only [ev] <;> rfl
      · cases h
    · cases h
  | isx i =>
    simp only [cE] at h
    split at h
    · obtain ⟨h1, h⟩ := ba h
      obtain ⟨h2, h⟩ := ba h
      obtain ⟨h3, h⟩ := ba h
      obtain ⟨h4, h5⟩ := ba h
      obtain ⟨g1, g2, g3, g4⟩ := C.var h5
      obtain rfl := of_decide_eq_true h1
      obtain rfl := of_decide_eq_true h3
      exact se_congr (s_isx g1 g2 g3 g4 (C.glo h2).1 (F.free _ (by decide)) (C.glo h4).1 (F.free _ (by decide)) (fun k xi e => (F.exc k xi e).2.2.2.2.2) C.hand) fun env => by simp only [ev] <;> rfl
    · cases h
  | b1 b a =>
    simp only [cE] at h
    split at h
    · obtain ⟨hk, h⟩ := ba h
      obtain ⟨h0, h⟩ := ba h
      obtain ⟨h1, h⟩ := ba h
      obtain ⟨h2, h⟩ := ba h
      obtain ⟨h3, h4⟩ := ba h
      obtain rfl := of_decide_eq_true h1
      exact se_congr (s_b1 hk ((Bool.or_eq_true_iff.mp h0).imp id C.calm) (C.glo h2).1 (F.free _ (b1_free b)) (S.o F C h4) h3) fun env => by simp only [ev] <;> rfl
    · obtain ⟨hk, h⟩ := ba h
      obtain ⟨h0, h⟩ := ba h
      obtain ⟨h1, h⟩ := ba h
      obtain ⟨h5, h⟩ := ba h
      obtain ⟨h2, h⟩ := ba h
      obtain ⟨h3, h4⟩ := ba h
      obtain rfl := of_decide_eq_true h1
      obtain rfl := of_decide_eq_true h5
      cases b with
      | sortr => exact se_congr (s_sortr (C.calm h0) (C.glo h2).1 (F.free _ (by decide)) (S.o F C h4) h3) fun env => by simp only [ev] <;> rfl
      | _ => exact absurd hk (by decide)
    · cases h
  | b2 b a d =>
    simp only [cE] at h
    split at h
    · obtain ⟨h0, h⟩ := ba h
      obtain ⟨h1, h⟩ := ba h
      obtain ⟨h2, h⟩ := ba h
      obtain ⟨h3, h⟩ := ba h
      obtain ⟨h4, h⟩ := ba h
      obtain ⟨h5, h6⟩ := ba h
      obtain rfl := of_decide_eq_true h1
      exact se_congr (s_b2 (C.calm h0) (C.glo h2).1 (F.free _ (b2_free b)) (S.o F C h5) (S.o F C h6) h3 h4) fun env => by simp only [ev] <;> rfl
    · cases h
  | isi a t =>
    simp only [cE] at h
    split at h
    · obtain ⟨h1, h⟩ := ba h
      obtain ⟨h2, h⟩ := ba h
      obtain ⟨h3, h⟩ := ba h
      obtain ⟨h4, h⟩ := ba h
      obtain ⟨h5, h6⟩ := ba h
      obtain rfl := of_decide_eq_true h1
      obtain rfl := of_decide_eq_true h3
      exact se_congr (s_isi (C.glo h2).1 (F.free _ (by decide)) (C.glo h4).1 (F.free _ (ty_free t)) (S.o F C h6) h5) fun env => by simp only [ev] <;> rfl
    · cases h
  | m1 m o a =>
    simp only [cE] at h
    split at h
    · obtain ⟨h1, h⟩ := ba h
      obtain ⟨h2, h⟩ := ba h
      obtain ⟨h3, h⟩ := ba h
      obtain ⟨h4, h⟩ := ba h
      obtain ⟨h5, h6⟩ := ba h
      obtain rfl := of_decide_eq_true h1
      exact se_congr (s_m1 (S.e F C h5) (S.o F C h6) h3 h2 (beq_iff_eq.mpr (of_decide_eq_true h4))) fun env => by simp only [ev] <;> rfl
    · cases h
  | comp tg it cs el own =>
    simp only [cE] at h
    split at h
    · obtain ⟨h1, h⟩ := ba h
      obtain ⟨h2, h⟩ := ba h
      obtain ⟨h3, h⟩ := ba h
      obtain ⟨h4, h5⟩ := ba h
      obtain rfl := of_decide_eq_true h1
      obtain ⟨b1, b2, b3, b4⟩ := S.bk F C h2 h5
      refine se_congr (s_comp (C.calm h2) C.nd (S.ic F C h4) b1 b4 h3 (by rw [b2]; exact b3)) fun env => ?_
      rw [b2]
      simp only [ev]
      rfl
    · cases h
  | fmt a =>
    simp only [cE] at h
    split at h
    · obtain ⟨h1, h2⟩ := ba h
      obtain rfl := of_decide_eq_true h1
      exact se_congr (s_fmt (S.e F C h2)) fun env => by simp only [ev]
    · cases h
  | js es =>
    simp only [cE] at h
    split at h
    · exact se_congr (s_js (S.js F C h)) fun env => by simp only [ev]
    · cases h
  | fz a =>
    simp only [cE] at h
    exact se_congr (s_fz (S.e F C h)) fun env => by simp only [ev]
  | lidx o a =>
    simp only [cE] at h
    split at h
    · obtain ⟨h1, h⟩ := ba h
      obtain ⟨h2, h⟩ := ba h
      obtain ⟨h3, h⟩ := ba h
      obtain ⟨h4, h⟩ := ba h
      obtain ⟨h5, h6⟩ := ba h
      obtain rfl := of_decide_eq_true h1
      exact se_congr (s_lidx (S.o F C h5) (S.e F C h6) h3 h2 (beq_iff_eq.mpr (of_decide_eq_true h4))) fun env => by simp only [ev] <;> rfl
    · cases h
  | lrg2 a b =>
    simp only [cE] at h
    split at h
    · obtain ⟨h0, h⟩ := ba h
      obtain ⟨h1, h⟩ := ba h
      obtain ⟨h2, h⟩ := ba h
      obtain ⟨h3, h⟩ := ba h
      obtain ⟨h4, h⟩ := ba h
      obtain ⟨h5, h⟩ := ba h
      obtain ⟨h6, h⟩ := ba h
      obtain ⟨h7, h8⟩ := ba h
      obtain rfl := of_decide_eq_true h1
      obtain rfl := of_decide_eq_true h3
      exact se_congr (s_lrg2 (C.calm h0) (C.glo h2).1 (F.free _ (by decide)) (C.glo h4).1 (F.free _ (by decide)) (S.e F C h7) (S.e F C h8) h5 h6) fun env => by simp only [ev]
    · cases h
  | sset a =>
    simp only [cE] at h
    split at h
    · obtain ⟨h0, h⟩ := ba h
      obtain ⟨h1, h⟩ := ba h
      obtain ⟨h2, h⟩ := ba h
      obtain ⟨h3, h⟩ := ba h
      obtain ⟨h4, h⟩ := ba h
      obtain ⟨h5, h6⟩ := ba h
      obtain rfl := of_decide_eq_true h1
      obtain rfl := of_decide_eq_true h3
      exact se_congr (s_sset (C.calm h0) (C.glo h2).1 (F.free _ (by decide)) (C.glo h4).1 (F.free _ (by decide)) (S.o F C h6) h5) fun env => by simp only [ev]
    · cases h
  | lrg a =>
    simp only [cE] at h
    split at h
    · obtain ⟨h0, h⟩ := ba h
      obtain ⟨h1, h⟩ := ba h
      obtain ⟨h2, h⟩ := ba h
      obtain ⟨h3, h⟩ := ba h
      obtain ⟨h4, h⟩ := ba h
      obtain ⟨h5, h6⟩ := ba h
      obtain rfl := of_decide_eq_true h1
      obtain rfl := of_decide_eq_true h3
      exact se_congr (s_lrg (C.calm h0) (C.glo h2).1 (F.free _ (by decide)) (C.glo h4).1 (F.free _ (by decide)) (S.e F C h6) h5) fun env => by simp only [ev]
    · cases h
theorem sp_congr {e : Expr} {f g : Env → Res D} (h : SP' X T ca xa cx G0 H0 W e f) (q : ∀ env, f env = g env) : SP' X T ca xa cx G0 H0 W e g := by
  have : f = g := funext q
  rw [← this]
  exact h
theorem sq_congr {e : Expr} {f g : Env → Res D} (h : SQ X T ca xa cx G0 H0 W e f) (q : ∀ env, f env = g env) : SQ X T ca xa cx G0 H0 W e g := by
  have : f = g := funext q
  rw [← this]
  exact h
theorem sa_congr {e : List Expr} {f g : Env → Res (List D)} (h : SA X T ca xa cx G0 H0 W e f) (q : ∀ env, f env = g env) : SA X T ca xa cx G0 H0 W e g := by
  have : f = g := funext q
  rw [← this]
  exact h
theorem sar_congr {ms : List Bool} {e : List Expr} {f g : Env → Res (List D)} (h : SAR X T ca xa cx G0 H0 W ms e f) (q : ∀ env, f env = g env) : SAR X T ca xa cx G0 H0 W ms e g := by
  have : f = g := funext q
  rw [← this]
  exact h
theorem so_congr {e : Option Expr} {f g : Env → Res (Option Int)} (h : SO X T ca xa cx G0 H0 W e f) (q : ∀ env, f env = g env) : SO X T ca xa cx G0 H0 W e g := by
  have : f = g := funext q
  rw [← this]
  exact h
theorem st_congr {e : Expr} {f g : Env → Res Bool} (h : ST X T ca xa cx G0 H0 W e f) (q : ∀ env, f env = g env) : ST X T ca xa cx G0 H0 W e g := by
  have : f = g := funext q
  rw [← this]
  exact h
theorem sw_congr {e : Expr} {f g : Env → Res Bool} (h : SW X T ca xa cx G0 H0 W e f) (q : ∀ env, f env = g env) : SW X T ca xa cx G0 H0 W e g := by
  have : f = g := funext q
  rw [← this]
  exact h
theorem sif_congr {tg e : Expr} {f g : Env → Res (List D)} (h : SIF X T ca xa cx G0 H0 W tg e f) (q : ∀ env, f env = g env) : SIF X T ca xa cx G0 H0 W tg e g := by
  have : f = g := funext q
  rw [← this]
  exact h
theorem sic_congr {tg e : Expr} {f g : Env → Res (List D)} (h : SIC X T ca xa cx G0 H0 W tg e f) (q : ∀ env, f env = g env) : SIC X T ca xa cx G0 H0 W tg e g := by
  have : f = g := funext q
  rw [← this]
  exact h
theorem step_bo (S : SndE n T ca xa K) {o : BoolOp} {ys : List Expr} {p : Pos} {t : E} (F : Kf X T ca xa K) (C : Cok X c cx W) (h : cBo T (n + 1) c o ys t = true) : SE X T ca xa cx G0 H0 W (.BoolOp o ys p) (ev K t) := by
  unfold cBo at h
  split at h
  · cases h
  · rename_i e1
    cases e1
    exact s_one (S.e F C h)
  · rename_i e1
    cases e1
    obtain ⟨h1, h2⟩ := ba h
    exact se_congr (s_and (S.e F C h1) (S.bo F C h2)) fun env => by simp only [ev] <;> rfl
  · rename_i e1
    cases e1
    obtain ⟨h1, h2⟩ := ba h
    exact se_congr (s_or (S.e F C h1) (S.bo F C h2)) fun env => by simp only [ev] <;> rfl
  · cases h
theorem step_o (S : SndE n T ca xa K) {x : Expr} {t : O} (F : Kf X T ca xa K) (C : Cok X c cx W) (h : cO T (n + 1) c x t = true) : SP' X T ca xa cx G0 H0 W x (po K t) := by
  cases t with
  | s i =>
    simp only [cO] at h
    split at h
    · obtain ⟨h1, h2, h3, h4⟩ := C.var h
      exact sp_congr (s_peek h1 h2 h3 h4) fun env => by simp only [po] <;> rfl
    · cases h
  | e e =>
    simp only [cO] at h
    exact sp_congr (s_toP (S.e F C h)) fun env => by simp only [po] <;> rfl
theorem step_q (S : SndE n T ca xa K) {x : Expr} {t : O} (F : Kf X T ca xa K) (C : Cok X c cx W) (h : cQ T (n + 1) c x t = true) : SQ X T ca xa cx G0 H0 W x (pt K t) := by
  cases t with
  | s i =>
    simp only [cQ] at h
    split at h
    · obtain ⟨h1, h2, h3, h4⟩ := C.var h
      exact sq_congr (s_peekQ h1 h2 h3 h4) fun env => by simp only [pt] <;> rfl
    · cases h
  | e e =>
    simp only [cQ] at h
    exact sq_congr (s_toQ (S.e F C h)) fun env => by simp only [pt] <;> rfl
theorem step_js (S : SndE n T ca xa K) {x : List Expr} {t : List E} (F : Kf X T ca xa K) (C : Cok X c cx W) (h : cJs T (n + 1) c x t = true) : SJ X T ca xa cx G0 H0 W x (js K t) := by
  cases x with
  | nil => cases t with
    | nil =>
      have e : js K [] = fun acc _ => .ok (.val (.str acc)) := by funext acc env; rw [js]
      rw [e]
      exact sj_nil
    | cons e es => cases h
  | cons y ys => cases t with
    | nil => cases h
    | cons e es =>
      simp only [cJs] at h
      obtain ⟨h1, h2⟩ := ba h
      have q : js K (e :: es) = fun acc env => (ev K e env).bind fun x => jsStep acc x fun y => js K es y env := by funext acc env; rw [js]
      rw [q]
      exact sj_cons (S.e F C h1) (S.js F C h2)
theorem step_es (S : SndE n T ca xa K) {x : List Expr} {t : List E} (F : Kf X T ca xa K) (C : Cok X c cx W) (h : cEs T (n + 1) c x t = true) : SA X T ca xa cx G0 H0 W x (evs K t) := by
  unfold cEs at h
  split at h
  · cases h
  · exact sa_congr s_nil fun env => by simp only [evs] <;> rfl
  · rename_i e1
    cases e1
    obtain ⟨h0, h⟩ := ba h
    obtain ⟨h1, h2⟩ := ba h
    exact sa_congr (s_cons (S.e F C h1) (S.es F C h2) h0) fun env => by simp only [evs] <;> rfl
  · cases h
theorem step_as (S : SndE n T ca xa K) {ms : List Bool} {x : List Expr} {t : List A} (F : Kf X T ca xa K) (C : Cok X c cx W) (h : cAs T (n + 1) c ms x t = true) : SAR X T ca xa cx G0 H0 W ms x (args K t) := by
  unfold cAs at h
  split at h
  · cases h
  · exact sar_congr r_nil fun env => by simp only [args] <;> rfl
  · rename_i e1
    cases e1
    obtain ⟨h0, h⟩ := ba h
    obtain ⟨h1, h2⟩ := ba h
    exact sar_congr (r_look (S.o F C h1) (S.as_ F C h2) h0) fun env => by simp only [args, arg] <;> rfl
  · rename_i e1
    cases e1
    obtain ⟨h0, h⟩ := ba h
    obtain ⟨h1, h2⟩ := ba h
    exact sar_congr (r_stay (s_toD (S.e F C h1)) (S.as_ F C h2) h0) fun env => by simp only [args, arg] <;> rfl
  · cases h
theorem step_op (S : SndE n T ca xa K) {x : Option Expr} {t : Option E} (F : Kf X T ca xa K) (C : Cok X c cx W) (h : cOp T (n + 1) c x t = true) : SO X T ca xa cx G0 H0 W x (part K t) := by
  unfold cOp at h
  split at h
  · cases h
  · exact so_congr o_none fun env => by simp only [part] <;> rfl
  · rename_i e1
    cases e1
    exact so_congr (o_some (S.e F C h)) fun env => by simp only [part] <;> rfl
  · cases h
theorem step_t (S : SndE n T ca xa K) {x : Expr} {t : PL.T} (F : Kf X T ca xa K) (C : Cok X c cx W) (h : cT T (n + 1) c x t = true) : ST X T ca xa cx G0 H0 W x (tv K t) := by
  cases t with
  | v o =>
    simp only [cT] at h
    obtain ⟨h1, h2⟩ := ba h
    exact st_congr (t_val (S.o F C h2) (truth_ok h1)) fun env => by simp only [tv] <;> rfl
  | not a =>
    simp only [cT] at h
    split at h
    · exact st_congr (t_not (S.t F C h)) fun env => by simp only [tv] <;> rfl
    · cases h
  | and a b =>
    simp only [cT] at h
    split at h
    · obtain ⟨h1, h2⟩ := ba h
      exact st_congr (w_and (S.t F C h1) (S.w F C h2)).pt fun env => by simp only [tv] <;> rfl
    · cases h
  | or a b =>
    simp only [cT] at h
    split at h
    · obtain ⟨h1, h2⟩ := ba h
      exact st_congr (w_or (S.t F C h1) (S.w F C h2)).pt fun env => by simp only [tv] <;> rfl
    · cases h
  | cmp o a b =>
    simp only [cT] at h
    split at h
    · obtain ⟨h1, h⟩ := ba h
      obtain ⟨h2, h⟩ := ba h
      obtain ⟨h3, h4⟩ := ba h
      obtain rfl := of_decide_eq_true h1
      exact st_congr (t_cmp F.un (S.o F C h2) (S.o F C h3) (by simpa using h4)) fun env => by simp only [tv] <;> rfl
    · cases h
  | ch2 o o' a b d =>
    simp only [cT] at h
    split at h
    · obtain ⟨h1, h⟩ := ba h
      obtain ⟨h2, h⟩ := ba h
      obtain ⟨h3, h⟩ := ba h
      obtain ⟨h4, h⟩ := ba h
      obtain ⟨h5, h6⟩ := ba h
      obtain rfl := of_decide_eq_true h1
      obtain rfl := of_decide_eq_true h2
      exact st_congr (t_ch2 F.un (S.o F C h3) (S.o F C h4) (S.o F C h5) (by simpa using h6)) fun env => by simp only [tv] <;> rfl
    · cases h
  | ch3 o o' o'' a b d e =>
    simp only [cT] at h
    split at h
    · obtain ⟨h1, h⟩ := ba h
      obtain ⟨h2, h⟩ := ba h
      obtain ⟨h0, h⟩ := ba h
      obtain ⟨h3, h⟩ := ba h
      obtain ⟨h4, h⟩ := ba h
      obtain ⟨h5, h⟩ := ba h
      obtain ⟨h6, h7⟩ := ba h
      obtain rfl := of_decide_eq_true h1
      obtain rfl := of_decide_eq_true h2
      obtain rfl := of_decide_eq_true h0
      exact st_congr (t_ch3 F.un (S.o F C h3) (S.o F C h4) (S.o F C h5) (S.o F C h6) (by simpa using h7)) fun env => by simp only [tv] <;> rfl
    · cases h
theorem w_one {o : BoolOp} {a : Expr} {f : Env → Res Bool} {pos : Pos} (ha : ST X T ca xa cx G0 H0 W a f) : SW X T ca xa cx G0 H0 W (.BoolOp o [a] pos) f := by
  cases o with
  | And => exact w_and1 ha
  | Or => exact w_or1 ha
theorem step_w (S : SndE n T ca xa K) {o : BoolOp} {ys : List Expr} {p : Pos} {t : PL.T} (F : Kf X T ca xa K) (C : Cok X c cx W) (h : cW T (n + 1) c o ys t = true) : SW X T ca xa cx G0 H0 W (.BoolOp o ys p) (tv K t) := by
  unfold cW at h
  split at h
  · cases h
  · rename_i e1
    cases e1
    exact w_one (S.t F C h)
  · rename_i e1
    cases e1
    obtain ⟨h1, h2⟩ := ba h
    exact sw_congr (w_and (S.t F C h1) (S.w F C h2)) fun env => by simp only [tv] <;> rfl
  · rename_i e1
    cases e1
    obtain ⟨h1, h2⟩ := ba h
    exact sw_congr (w_or (S.t F C h1) (S.w F C h2)) fun env => by simp only [tv] <;> rfl
  · cases h
theorem isZero_ok {a : E} (h : isZero a = true) : a = .int 0 := by
  cases a with
  | int i => rw [of_decide_eq_true h]
  | _ => cases h
theorem fr_range : ("range" : Str) ∈ freeNames := by decide
theorem fr_rev : ("reversed" : Str) ∈ freeNames := by decide
theorem step_if (S : SndE n T ca xa K) {tg x : Expr} {t : PL.It} (F : Kf X T ca xa K) (C : Cok X c cx W) (h : cIF T (n + 1) c tg x t = true) : SIF X T ca xa cx G0 H0 W tg x (itsF K t) := by
  cases t with
  | r1 a =>
    simp only [cIF] at h
    split at h
    · obtain ⟨h1, h⟩ := ba h
      obtain ⟨h2, h⟩ := ba h
      obtain ⟨h3, h4⟩ := ba h
      obtain rfl := of_decide_eq_true h1
      exact sif_congr (sif_r1 (C.glo h2).1 (F.free _ fr_range) (S.e F C h4) h3) fun env => by simp only [itsF, its] <;> rfl
    · cases h
  | r2 a b =>
    simp only [cIF] at h
    split at h
    · obtain ⟨h1, h⟩ := ba h
      obtain ⟨h2, h⟩ := ba h
      obtain ⟨h3, h⟩ := ba h
      obtain ⟨h4, h⟩ := ba h
      obtain ⟨h5, h6⟩ := ba h
      obtain rfl := of_decide_eq_true h1
      exact sif_congr (sif_r2 (C.glo h2).1 (F.free _ fr_range) (S.e F C h5) (S.e F C h6) h3 h4) fun env => by simp only [itsF, its] <;> rfl
    · cases h
  | r3 a b k =>
    simp only [cIF] at h
    split at h
    · obtain ⟨h1, h⟩ := ba h
      obtain ⟨h2, h⟩ := ba h
      obtain ⟨h3, h⟩ := ba h
      obtain ⟨h4, h⟩ := ba h
      obtain ⟨h5, h⟩ := ba h
      obtain ⟨h6, h⟩ := ba h
      obtain ⟨h7, h8⟩ := ba h
      obtain rfl := of_decide_eq_true h1
      exact sif_congr (sif_r3 (C.glo h2).1 (F.free _ fr_range) (S.e F C h6) (S.e F C h7) (S.e F C h8) h3 h4 h5) fun env => by simp only [itsF, its] <;> rfl
    · cases h
  | revr a b =>
    simp only [cIF] at h
    split at h
    · obtain ⟨h1, h⟩ := ba h
      obtain ⟨h2, h⟩ := ba h
      obtain ⟨k1, h⟩ := ba h
      obtain ⟨k2, h⟩ := ba h
      obtain ⟨h3, h⟩ := ba h
      obtain ⟨h4, h⟩ := ba h
      obtain ⟨h5, h6⟩ := ba h
      obtain rfl := of_decide_eq_true h1
      obtain rfl := of_decide_eq_true k1
      exact sif_congr (sif_rr (C.glo k2).1 (F.free _ fr_range) (C.glo h2).1 (F.free _ fr_rev) (S.e F C h5) (S.e F C h6) h3 h4) fun env => by simp only [itsF, its] <;> rfl
    · obtain ⟨h1, h⟩ := ba h
      obtain ⟨h2, h⟩ := ba h
      obtain ⟨k1, h⟩ := ba h
      obtain ⟨k2, h⟩ := ba h
      obtain ⟨h3, h⟩ := ba h
      obtain ⟨h5, h6⟩ := ba h
      obtain rfl := of_decide_eq_true h1
      obtain rfl := of_decide_eq_true k1
      obtain rfl := isZero_ok h5
      exact sif_congr (sif_rr1 (C.glo k2).1 (F.free _ fr_range) (C.glo h2).1 (F.free _ fr_rev) (S.e F C h6) h3) fun env => by simp only [itsF, its, ev] <;> rfl
    · cases h
  | sq o =>
    cases o with
    | s i =>
      simp only [cIF] at h
      split at h
      · obtain ⟨h1, h2, h3, h4⟩ := C.var h
        exact sif_congr (sif_s h1 h2 h3 h4) fun env => by simp only [itsF] <;> rfl
      · cases h
    | e e =>
      simp only [cIF] at h
      exact sif_congr (sif_e (S.e F C h)) fun env => by simp only [itsF, its, po] <;> rfl
  | rev o =>
    cases o with
    | s i =>
      simp only [cIF] at h
      split at h
      · obtain ⟨k1, h⟩ := ba h
        obtain ⟨k2, h⟩ := ba h
        obtain ⟨h1, h2, h3, h4⟩ := C.var h
        obtain rfl := of_decide_eq_true k1
        exact sif_congr (sif_revs (C.glo k2).1 (F.free _ fr_rev) h1 h2 h3 h4) fun env => by simp only [itsF] <;> rfl
      · cases h
    | e e =>
      simp only [cIF] at h
      split at h
      · obtain ⟨k1, h⟩ := ba h
        obtain ⟨k2, h⟩ := ba h
        obtain ⟨k3, k4⟩ := ba h
        obtain rfl := of_decide_eq_true k1
        exact sif_congr (sif_reve (C.glo k2).1 (F.free _ fr_rev) (S.e F C k4) k3) fun env => by simp only [itsF, its, po] <;> rfl
      · cases h
theorem step_ic (S : SndE n T ca xa K) {tg x : Expr} {t : PL.It} (F : Kf X T ca xa K) (C : Cok X c cx W) (h : cIC T (n + 1) c tg x t = true) : SIC X T ca xa cx G0 H0 W tg x (its K t) := by
  cases t with
  | sq o =>
    simp only [cIC] at h
    exact sic_congr (sic_o (S.o F C h)) fun env => by simp only [its] <;> rfl
  | rev o =>
    simp only [cIC] at h
    split at h
    · obtain ⟨k1, h⟩ := ba h
      obtain ⟨k2, h⟩ := ba h
      obtain ⟨k3, k4⟩ := ba h
      obtain rfl := of_decide_eq_true k1
      exact sic_congr (sic_rev (C.glo k2).1 (F.free _ fr_rev) (S.o F C k4) k3) fun env => by simp only [its] <;> rfl
    · cases h
  | r1 a =>
    simp only [cIC] at h
    exact sic_congr (si_C (S.ifr F C h)) fun env => by simp only [itsF] <;> rfl
  | r2 a b =>
    simp only [cIC] at h
    exact sic_congr (si_C (S.ifr F C h)) fun env => by simp only [itsF] <;> rfl
  | r3 a b k =>
    simp only [cIC] at h
    exact sic_congr (si_C (S.ifr F C h)) fun env => by simp only [itsF] <;> rfl
  | revr a b =>
    simp only [cIC] at h
    exact sic_congr (si_C (S.ifr F C h)) fun env => by simp only [itsF] <;> rfl
theorem step_bk (S : SndE n T ca xa K) {scope : Scope} {tg' elt : Expr} {ifs : List Expr} {tg : Tg} {cs : List PL.T} {el : E} {own : List Nat} (F : Kf X T ca xa K) (C : Cok X c cx W) (hc : c.calm = true) (h : cBk T (n + 1) c scope tg' ifs elt tg cs el own = true) :
    BlkOk X.N X.env.scope scope (ownP c own) ∧ (ownP c own).map (·.2) = own ∧ (∀ i ∈ tgIx tg, i ∈ own) ∧ BlkT X T ca xa cx G0 H0 scope tg' tg ifs elt (tvs K cs) (ev K el) := by
  simp only [cBk] at h
  obtain ⟨h1, h⟩ := ba h
  obtain ⟨h2, h⟩ := ba h
  obtain ⟨h3, h⟩ := ba h
  obtain ⟨h4, h⟩ := ba h
  obtain ⟨h5, h6⟩ := ba h
  have b := blkOk_by h1
  have C' : ∀ (s : Shared) (H : Hp) (Ca : Addr) (cl : List (Str × Addr)) (fp : List Addr), Cok (X.blk s H scope (compEnvC scope cl Ca X.env) fp) (cBlk c scope) cx W0 := fun s H Ca cl fp => C.blkc hc s H scope cl Ca fp b.kind
  have F' : ∀ (s : Shared) (H : Hp) (Ca : Addr) (cl : List (Str × Addr)) (fp : List Addr), Kf (X.blk s H scope (compEnvC scope cl Ca X.env) fp) T ca xa K := fun s H Ca cl fp => F.blk s H scope _ fp
  refine ⟨by rw [C.N, C.sc]; exact b, of_decide_eq_true h2, fun i hi => of_decide_eq_true (List.all_eq_true.mp h4 i hi), fun s H Ca cl fp => ?_, fun s H Ca cl fp => ?_, fun s H Ca cl fp => S.e (F' s H Ca cl fp) (C' s H Ca cl fp) h5⟩
  · have st : StB (X.blk s H scope (compEnvC scope cl Ca X.env) fp) (fun x => stB (cBlk c scope) x || celB scope x) := fun x hx => by
      simp only [Bool.or_eq_true] at hx
      rcases hx with hx | hx
      · exact (C' s H Ca cl fp).st x hx
      · unfold celB at hx
        split at hx
        · rename_i e
          have e2 : (relS scope X.env.scope).names.lookup x = some .cell := lookup_relS_keep (by decide) e
          refine ⟨.inr e2, .inl ?_⟩
          show (scope.names.lookup x == some .cell) = true
          rw [e]
          rfl
        · cases hx
    exact pg_tg (X := X.blk s H scope (compEnvC scope cl Ca X.env) fp) st ((C' s H Ca cl fp).calm hc) C.nd (by
      show tgB X.N _ tg' tg = true
      rw [C.N]
      exact h3)
  · split at h6
    · refine pts_nil.imp fun σ H Q ⟨G, env, rel, p⟩ => ?_
      simp only [tvs] at p
      exact p true H G (Step.refl rel.gh) rfl
    · have q := pts_one (S.t (F' s H Ca cl fp) (C' s H Ca cl fp) h6 : ST (X.blk s H scope (compEnvC scope cl Ca X.env) fp) T ca xa cx G0 H0 W0 _ _)
      refine q.imp fun σ H Q ⟨G, env, rel, p⟩ => ?_
      simp only [tvs] at p
      exact ⟨G, env, rel, p⟩
    · cases h6
theorem snd_all : ∀ n : Nat, SndE n T ca xa K
  | 0 => snd_zero
  | n + 1 =>
    have S := snd_all n
    { e := fun F C h => step_e S F C h
      bo := fun F C h => step_bo S F C h
      o := fun F C h => step_o S F C h
      q := fun F C h => step_q S F C h
      es := fun F C h => step_es S F C h
      as_ := fun F C h => step_as S F C h
      js := fun F C h => step_js S F C h
      op := fun F C h => step_op S F C h
      t := fun F C h => step_t S F C h
      w := fun F C h => step_w S F C h
      ic := fun F C h => step_ic S F C h
      ifr := fun F C h => step_if S F C h
      bk := fun F C hc h => step_bk S F C hc h }
end
end PL

set_option linter.all false
set_option Elab.async false
set_option maxRecDepth 100000
set_option maxHeartbeats 4000000
/-! The checker of statements. -/
namespace PL
open PySem PySem.Spec PyProof.Rows L2
/-- may the name be stored -/
def setB (c : Cc) (i : Nat) (x : Str) : Bool := decide (c.N[i]? = some x) && stB c x
def cSuite (c : Cc) : Cc := { c with calm := false, hot := true }
mutual
/-- a value of which the parts may be one's own -/
def cOE (T : Tab) : Nat → Cc → Expr → OE → Bool
  | 0, _, _, _ => false
  | n + 1, c, x, .e e => cE T n c x e
  | n + 1, c, x, .tup es => (match x with
    | .Tuple ys _ _ => cOEs T n c ys es
    | _ => false)
  | n + 1, c, x, .lst es => (match x with
    | .List ys _ => cOEs T n c ys es
    | _ => false)
  | n + 1, c, x, .s i => (match x with
    | .Name y _ => varB c i y
    | _ => false)
  | n + 1, c, x, .call f es => (match x with
    | .Call (.Name y _) (z :: ys) [] _ => c.calm && (match T.fns[f]? with
      | some fi => decide (fi.at_ = .glo) && (decide (fi.name = y) && (glB c y && ((z :: ys).all noStar && cAs T n c fi.fn.pm (z :: ys) es)))
      | none => false)
    | _ => false)
def cOEs (T : Tab) : Nat → Cc → List Expr → List OE → Bool
  | 0, _, _, _ => false
  | n + 1, c, [], [] => true
  | n + 1, c, x :: xs, e :: es => noStar x && (cOE T n c x e && cOEs T n c xs es)
  | _, _, _, _ => false
end
def keyB (c : Cc) : Expr → Ky → Bool
  | .Constant (.int i) _ _, .c j => decide (i = j)
  | .Name x _, .v i => varB c i x
  | _, _ => false
/-- the way to a part of slot i; the keys from the last one on -/
def pthB (c : Cc) (i : Nat) : Nat → Expr → List Ky → Bool
  | n + 1, .Name x _, [] => varB c i x
  | n + 1, .Subscript e kx _, k :: ks => noSlice kx && (keyB c kx k && pthB c i n e ks)
  | _, _, _ => false
mutual
def cS (T : Tab) : Nat → Cc → Stmt → S → Bool
  | 0, _, _, _ => false
  | n + 1, c, st, .asg fr i e => (match st with
    | .Assign [.Name x p1] v pos => (noComp v && (setB c i x && cE T n c v e)) || (match v, e with
      | .ListComp elt [⟨tg', iter, ifs, a⟩] scope p2, .comp tg it cs el own => (decide (c.N[i]? = some x) && (locB c.sc x && (decide (p1.line = p2.line) && (!(scope.names.any fun (y, k) => y == x && (k == .local || k == .cell)) && (decide (a = 0) && (c.calm && (noSet iter && (cIC T n c tg' iter it && cBk T n c scope tg' ifs elt tg cs el own)))))))) || (celB c.sc x && (setB c i x && cE T n c v e))
      | .ListComp elt gs scope p2, e => celB c.sc x && (setB c i x && cE T n c v e)
      | _, _ => false)
    | _ => false)
  | n + 1, c, st, .asgt fr is e => (match st with
    | .Assign [.Tuple es _ _] v _ => c.calm && (namesB c.N (stB c) es is && (noTup v && cE T n c v e))
    | _ => false)
  | n + 1, c, st, .aug i o e => (match st with
    | .AugAssign (.Name x _) op v _ => decide (op = augOp o) && (setB c i x && cE T n c v e)
    | _ => false)
  | n + 1, c, st, .app fr i e => (match st with
    | .Expr (.Call (.Attribute (.Name x _) m ap) [v] [] p) _ => decide (m = "append") && (varB c i x && (noStar v && (decide (ap.endLine = p.line) && cE T n c v e)))
    | _ => false)
  | n + 1, c, st, .seti fr i k e => (match st with
    | .Assign [.Subscript (.Name x _) y _] v _ => varB c i x && (noSlice y && (cE T n c v e && cE T n c y k))
    | _ => false)
  | n + 1, c, st, .augi i k o e => (match st with
    | .AugAssign (.Subscript (.Name x _) y _) op v _ => decide (op = augOp o) && (varB c i x && (noSlice y && (cE T n c v e && cE T n c y k)))
    | _ => false)
  | n + 1, c, st, .setf fr k j e => (match st with
    | .Assign [.Attribute (.Name x _) m _] v _ => varB c 0 x && (cE T n c v e && (match T.cls[k]? with
      | some ci => decide (ci.fields[j]? = some m)
      | none => false))
    | _ => false)
  | n + 1, c, st, .ite fr t a b => (match st with
    | .If v xs ys _ => cT T n c v t && (cSs T n c xs a && cSs T n c ys b)
    | _ => false)
  | n + 1, c, st, .whl fr t b => (match st with
    | .While v xs [] _ => c.calm && (cT T n c v t && cSs T n c xs b)
    | _ => false)
  | n + 1, c, st, .forl fr tg it b => (match st with
    | .For v x xs [] _ => c.calm && (tgB c.N (stB c) v tg && (noSet x && (cIF T n c v x it && cSs T n c xs b)))
    | _ => false)
  | n + 1, c, st, .ret fr e => (match st with
    | .Return (some v) _ => cE T n c v e
    | _ => false)
  | n + 1, c, st, .retn => (match st with
    | .Return none _ => true
    | _ => false)
  | n + 1, c, st, .reto i => (match st with
    | .Return (some (.Name x _)) _ => varB c i x
    | _ => false)
  | n + 1, c, st, .ex fr e => (match st with
    | .Expr v _ => noComp v && cE T n c v e
    | _ => false)
  | n + 1, c, st, .pass => (match st with
    | .Pass _ => true
    | .Expr (.Constant (.str _) _ _) _ => true
    | _ => false)
  | n + 1, c, st, .cont => (match st with
    | .Continue _ => true
    | _ => false)
  | n + 1, c, st, .rais k es => (match st with
    | .Raise (some (.Call (.Name x _) (y :: ys) [] _)) none _ => c.calm && (glB c x && (match T.exs[k]? with
      | some xi => decide (xi.name = x) && (match xi.fields with
        | [] => (match ys, es with
          | [], [e] => noStar y && cE T n c y e
          | _, _ => false)
        | f0 :: fs => decide (es.length = fs.length + 1) && cEs T n c (y :: ys) es)
      | none => false))
    | _ => false)
  | n + 1, c, st, .asgo fr i x => (match st with
    | .Assign [.Name y p1] v pos => noComp v && (setB c i y && cOE T n c v x)
    | _ => false)
  | n + 1, c, st, .asgot fr is x => (match st with
    | .Assign [.Tuple es _ _] v _ => c.calm && (namesB c.N (stB c) es is && (noTup v && cOE T n c v x))
    | _ => false)
  | n + 1, c, st, .retd fr x => (match st with
    | .Return (some v) _ => cOE T n c v x
    | _ => false)
  | n + 1, c, st, .appd fr tf i ks e => (match st with
    | .Expr (.Call (.Attribute pe m ap) [v] [] p) _ => decide (m = "append") && (pthB c i 9 pe ks.reverse && (noStar v && (decide (ap.endLine = p.line) && cE T n c v e)))
    | _ => false)
  | n + 1, c, st, .setd fr tf i ks k e => (match st with
    | .Assign [.Subscript pe kx _] v _ => pthB c i 9 pe ks.reverse && (keyB c kx k && (noSlice kx && cE T n c v e))
    | _ => false)
  | n + 1, c, st, .asgT fr tf i e => (match st with
    | .Assign [.Name x p1] v pos => noComp v && (setB c i x && cE T n c v e)
    | _ => false)
  | n + 1, c, st, .iteT fr tf t a b => (match st with
    | .If v xs ys _ => cT T n c v t && (cSs T n c xs a && cSs T n c ys b)
    | _ => false)
  | n + 1, c, st, .exT fr tf e => (match st with
    | .Expr v _ => noComp v && cE T n c v e
    | _ => false)
  | n + 1, c, st, .th s l => cS T n c st s
  | n + 1, c, st, .fz l => false
  | n + 1, c, st, .apop fr i j => (match st with
    | .Expr (.Call (.Attribute (.Name x _) m ap) [.Call (.Attribute (.Name y _) m2 ap2) [] [] p4] [] p) _ => decide (m = "append") && (decide (m2 = "pop") && (varB c i x && (varB c j y && (decide (i ≠ j) && (decide (ap.endLine = p.line) && decide (ap2.endLine = p4.line))))))
    | _ => false)
  | n + 1, c, st, .retT fr tf e => (match st with
    | .Return (some v) _ => cE T n c v e
    | _ => false)
  | n + 1, c, st, .try b hs => (match st with
    | .Try xs (h0 :: hds) [] [] _ => c.calm && (cSs T n c xs b && cHs T n c (h0 :: hds) hs)
    | _ => false)
def cSs (T : Tab) : Nat → Cc → List Stmt → List S → Bool
  | 0, _, _, _ => false
  | n + 1, c, [], [] => true
  | n + 1, c, st :: sts, s :: ss => cS T n c st s && cSs T n c sts ss
  | _, _, _, _ => false
def cHs (T : Tab) : Nat → Cc → List ExceptHandler → List (Nat × Option Nat × List S) → Bool
  | 0, _, _, _ => false
  | n + 1, c, [], [] => true
  | n + 1, c, h :: hds, (k, i, b) :: r => (match h with
    | .ExceptHandler (some (.Name x _)) nm (st :: su) _ => glB c x && ((match T.exs[k]? with
      | some xi => decide (xi.name = x)
      | none => false) && ((match nm, i with
      | none, none => true
      | some y, some j => decide (c.N[j]? = some y) && locB c.sc y
      | _, _ => false) && (cSs T n (cSuite c) (st :: su) b && cHs T n c hds r)))
    | _ => false)
  | _, _, _, _ => false
end
/-- what holds of a def's frame -/
structure CokS (X : Cx) (c : Cc) (cx : Hand) (W : WX) : Prop extends Cok X c cx W where
  fr : X.stack = X.env :: X.outer ∧ X.env.frame = some X.env.locals
  po : c.calm = true → PassesOwn (model X.prog X.w) X.A X.env X.xe
section
variable {X : Cx} {T : Tab} {ca xa : Nat → Addr} {cx : Hand} {G0 H0 : Hp} {W : WX} {c : Cc} {K : Ctx} {n : Nat}
structure SndS (n : Nat) (T : Tab) (ca xa : Nat → Addr) (K : Ctx) : Prop where
  s : ∀ {X : Cx} {c : Cc} {cx : Hand} {W : WX} {G0 H0 : Hp} {st : Stmt} {t : S}, Kf X T ca xa K → CokS X c cx W → cS T n c st t = true → SS X T ca xa cx G0 H0 W st (exs K t)
  ss : ∀ {X : Cx} {c : Cc} {cx : Hand} {W : WX} {G0 H0 : Hp} {st : List Stmt} {t : List S}, Kf X T ca xa K → CokS X c cx W → cSs T n c st t = true → SSs X T ca xa cx G0 H0 W st (exss K t)
  hs : ∀ {X : Cx} {c : Cc} {cx : Hand} {W : WX} {G0 H0 : Hp} {st : List ExceptHandler} {t : List (Nat × Option Nat × List S)}, Kf X T ca xa K → CokS X c cx W → cHs T n c st t = true → HdR X T ca xa cx G0 H0 st (t.map fun p => (p.1, p.2.1, exss K p.2.2))
theorem ss_congr {st : Stmt} {f g : Env → Out} (h : SS X T ca xa cx G0 H0 W st f) (q : ∀ env, f env = g env) : SS X T ca xa cx G0 H0 W st g := by
  have : f = g := funext q
  rw [← this]
  exact h
theorem sss_congr {st : List Stmt} {f g : Env → Out} (h : SSs X T ca xa cx G0 H0 W st f) (q : ∀ env, f env = g env) : SSs X T ca xa cx G0 H0 W st g := by
  have : f = g := funext q
  rw [← this]
  exact h
theorem Cok.set (C : Cok X c cx W) {x : Str} {i : Nat} (h : setB c i x = true) : X.N[i]? = some x ∧ Loc X.env.scope x ∧ (X.fn x = true ∨ X.env.scope.names.lookup x = some .local) := by
  unfold setB at h
  simp only [Bool.and_eq_true, decide_eq_true_eq] at h
  obtain ⟨h1, h2⟩ := h
  exact ⟨by rw [C.N]; exact h1, (C.st x h2).1, (C.st x h2).2⟩
theorem Cok.loc (C : Cok X c cx W) {x : Str} (h : locB c.sc x = true) : X.env.scope.names.lookup x = some .local := by
  unfold locB at h
  split at h
  · rename_i e; rw [C.sc]; exact e
  · cases h
theorem Cok.cel (C : Cok X c cx W) {x : Str} (h : celB c.sc x = true) : X.env.scope.names.lookup x = some .cell := by
  unfold celB at h
  split at h
  · rename_i e; rw [C.sc]; exact e
  · cases h
theorem sw_cell {elt : Expr} {gs : List Comprehension} {scope : Scope} {pos py : Pos} {y : Str} {l : Nat} {env : PySem.Env} (hy : env.scope.names.lookup y = some .cell) : swapsWith (.ListComp elt gs scope pos) (some (.Name y py)) l env = pure false := by
  have ky : env.kindOf y = some .cell := hy
  unfold swapsWith
  simp only [ky]
  have e : ((some NameKind.cell : Option NameKind) == some .local) = false := rfl
  simp only [e, Bool.and_false, Bool.false_and]
theorem hdsF_eq (K : Ctx) : ∀ (l : List (Nat × Option Nat × List S)) (k : Nat) (fs : List D) (env : Env), hdsF (l.map fun p => (p.1, p.2.1, exss K p.2.2)) k fs env = hds K l k fs env
  | [], k, fs, env => by simp only [List.map, hdsF, hds]
  | (h, n, b) :: r, k, fs, env => by
    simp only [List.map, hdsF, hds]
    rw [hdsF_eq K r]
    try rfl
theorem CokS.tr (C : CokS X c cx W) (hc : c.calm = true) {W' : WX} (pn : List (Addr × Obj)) (xe : Value → Shared → Prop) (tk : L2N.Takes (X.tr pn xe) W') (hp : PassesOwn (model X.prog X.w) X.A X.env xe) : CokS (X.tr pn xe) c cx W' where
  N := C.N
  nd := C.nd
  sc := C.sc
  kind := C.kind
  calm := C.calm
  st := C.st
  tk := tk
  hotc := fun _ z => by rw [hc] at z; cases z
  cold := C.cold
  hand := fun a cls d e => by rw [C.cold hc] at e; cases e
  fr := C.fr
  po := fun _ => hp
theorem CokS.suite (C : CokS X c cx W) {a : Addr} {oe : Obj} {cls : Value} {d : Option Addr} (pn : List (Addr × Obj)) (hz : L2N.Zn cls d oe) (hv : ∃ vs, oe.data = .fields vs) : CokS (X.suite a ((a, oe) :: pn)) (cSuite c) ⟨cx.hk, some (a, cls, d), cx.ob⟩ W0 where
  N := C.N
  nd := C.nd
  sc := C.sc
  kind := C.kind
  calm := fun z => nomatch z
  st := C.st
  tk := fun u s' ⟨_, _, _, _, _, _, _, _, _, _, _, _, _, _, _, _, w⟩ => w.elim
  hotc := fun _ _ => by
    obtain ⟨vs, e1⟩ := hv
    exact ⟨(a, oe), ⟨rfl, vs, e1, hz.2.2 vs e1⟩, List.mem_cons_self⟩
  cold := fun z => nomatch z
  hand := fun a' cls' d' e => by
    cases e
    exact ⟨oe, List.mem_cons_self, hz, hv⟩
  fr := C.fr
  po := fun z => nomatch z
theorem key_ok (C : Cok X c cx W) {e : Expr} {k : Ky} (h : keyB c e k = true) : KyE X e k := by
  unfold keyB at h
  split at h
  · obtain rfl := of_decide_eq_true h
    exact .c
  · obtain ⟨g1, g2, g3, g4⟩ := C.var h
    exact .v g1 g2 g3 g4
  · cases h
theorem pth_ok (C : Cok X c cx W) {i : Nat} : ∀ {n : Nat} {e : Expr} {ks : List Ky}, pthB c i n e ks.reverse = true → Pth X i e ks
  | 0, e, ks, h => by cases e <;> (unfold pthB at h; cases h)
  | n + 1, e, ks, h => by
    obtain ⟨rs, hr⟩ : ∃ rs, rs = ks.reverse := ⟨_, rfl⟩
    rw [← hr] at h
    have hk : ks = rs.reverse := by rw [hr, List.reverse_reverse]
    unfold pthB at h
    split at h
    · rename_i e1 e2
      cases e1
      subst hk
      obtain ⟨g1, g2, g3, g4⟩ := C.var h
      exact .nm g1 g2 g3 g4
    · rename_i m e kx pos k rs en
      cases en
      obtain ⟨h1, h⟩ := ba h
      obtain ⟨h2, h3⟩ := ba h
      subst hk
      rw [List.reverse_cons]
      exact .ix (pth_ok C (by rw [List.reverse_reverse]; exact h3)) (key_ok C h2) h1
    · cases h
theorem app_nd {a b : List Nat} (h : (a ++ b).Nodup) : a.Nodup ∧ b.Nodup := ⟨(List.nodup_append.mp h).1, (List.nodup_append.mp h).2.1⟩
theorem oe_step (F : Kf X T ca xa K) (C : Cok X c cx W) {n : Nat} (oes_ok : ∀ {x : List Expr} {o : List OE}, (oesSl o).Nodup → cOEs T n c x o = true → PA X x (tOs (PX X T ca xa) cx G0 H0 W (oesSl o) (oevs K o))) : ∀ {x : Expr} {o : OE}, (oeSl o).Nodup → cOE T (n + 1) c x o = true → PE X x (tO (PX X T ca xa) cx G0 H0 W (oeSl o) (oev K o))
  | x, .e e, nd, h => by
    unfold cOE at h
    have q := so_e ((snd_all (T := T) (ca := ca) (xa := xa) (K := K) n).e (G0 := G0) (H0 := H0) F C h)
    have e1 : oev K (.e e) = fun env => (ev K e env).bind fun r => .ok (vlO r) := funext fun env => by simp only [oev]
    rw [e1, oeSl]
    exact q
    all_goals simp
  | x, .tup es, nd, h => by
    unfold cOE at h
    split at h
    · have e1 : oev K (.tup es) = fun env => (oevs K es env).bind fun os => if os.length ≤ SL then .ok (.tup os) else .bad := funext fun env => by simp only [oev]
      rw [oeSl] at nd
      rw [e1, oeSl]
      exact so_tup (oes_ok nd h)
    · cases h
  | x, .lst es, nd, h => by
    unfold cOE at h
    split at h
    · have e1 : oev K (.lst es) = fun env => (oevs K es env).bind fun os => if os.length ≤ SL then .ok (.lst os) else .bad := funext fun env => by simp only [oev]
      rw [oeSl] at nd
      rw [e1, oeSl]
      exact so_lst (oes_ok nd h)
    · cases h
  | x, .s i, nd, h => by
    unfold cOE at h
    split at h
    · obtain ⟨g1, g2, g3, g4⟩ := C.var h
      have e1 : oev K (.s i) = fun env => (match env[i]? with
        | some (.val d) => .ok (.dat d)
        | some (.own ds) => .ok (.lst (ds.map .dat))
        | some (.dp o) => .ok o
        | _ => .bad) := funext fun env => by simp only [oev] <;> rfl
      rw [e1, oeSl]
      exact so_s g1 g2 g3 g4
    · cases h
  | x, .call f es, nd, h => by
    unfold cOE at h
    split at h
    · rename_i y p z ys pos
      obtain ⟨h0, h⟩ := ba h
      split at h
      · rename_i fi e
        obtain ⟨h1, h⟩ := ba h
        obtain ⟨h2, h⟩ := ba h
        obtain ⟨h3, h⟩ := ba h
        obtain ⟨h4, h5⟩ := ba h
        obtain ⟨g1, g2⟩ := C.glo h3
        have A := F.fn_at (C.calm h0) C.tk e (of_decide_eq_true h1)
        obtain rfl := of_decide_eq_true h2
        have e1 : oev K (.call f es) = fun env => (args K es env).bind fun ds => (K.callx f ds).bind fun r => .ok (rtO r) := funext fun env => by simp only [oev]
        rw [e1, oeSl]
        exact so_call A g1 g2 ((snd_all (T := T) (ca := ca) (xa := xa) (K := K) n).as_ F C h5) h4 (by simp)
        all_goals simp
      · cases h
    · cases h
theorem oes_step (F : Kf X T ca xa K) (C : Cok X c cx W) {n : Nat} (oe_ok : ∀ {x : Expr} {o : OE}, (oeSl o).Nodup → cOE T n c x o = true → PE X x (tO (PX X T ca xa) cx G0 H0 W (oeSl o) (oev K o))) (oes_ok : ∀ {x : List Expr} {o : List OE}, (oesSl o).Nodup → cOEs T n c x o = true → PA X x (tOs (PX X T ca xa) cx G0 H0 W (oesSl o) (oevs K o))) : ∀ {x : List Expr} {o : List OE}, (oesSl o).Nodup → cOEs T (n + 1) c x o = true → PA X x (tOs (PX X T ca xa) cx G0 H0 W (oesSl o) (oevs K o))
  | x, o, nd, h => by
    unfold cOEs at h
    split at h
    · cases h
    · rename_i e1
      cases e1
      have e1 : oevs K [] = fun _ => .ok [] := funext fun env => by simp only [oevs]
      rw [e1, oesSl]
      exact sos_nil
    · rename_i x xs e es e1
      cases e1
      obtain ⟨h1, h⟩ := ba h
      obtain ⟨h2, h3⟩ := ba h
      have e1 : oevs K (e :: es) = fun env => (oev K e env).bind fun x => (oevs K es env).bind fun os => .ok (x :: os) := funext fun env => by simp only [oevs]
      rw [oesSl] at nd
      rw [e1, oesSl]
      exact sos_cons (oe_ok (app_nd nd).1 h2) (oes_ok (app_nd nd).2 h3) h1 nd
    · cases h
theorem oe_all (F : Kf X T ca xa K) (C : Cok X c cx W) : ∀ n : Nat, (∀ {x : Expr} {o : OE}, (oeSl o).Nodup → cOE T n c x o = true → PE X x (tO (PX X T ca xa) cx G0 H0 W (oeSl o) (oev K o))) ∧ (∀ {x : List Expr} {o : List OE}, (oesSl o).Nodup → cOEs T n c x o = true → PA X x (tOs (PX X T ca xa) cx G0 H0 W (oesSl o) (oevs K o)))
  | 0 => ⟨fun {x o} _ h => by cases o <;> (unfold cOE at h; cases h), fun {x o} _ h => by unfold cOEs at h; cases h⟩
  | n + 1 => ⟨oe_step F C (oe_all F C n).2, oes_step F C (oe_all F C n).1 (oe_all F C n).2⟩
theorem oe_ok (F : Kf X T ca xa K) (C : Cok X c cx W) {n : Nat} {x : Expr} {o : OE} (nd : (oeSl o).Nodup) (h : cOE T n c x o = true) : PE X x (tO (PX X T ca xa) cx G0 H0 W (oeSl o) (oev K o)) := (oe_all F C n).1 nd h
/-- the condition is looked at first -/
theorem ss_when {st : Stmt} {p : Prop} [Decidable p] {f : Env → Out} (h : p → SS X T ca xa cx G0 H0 W st f) : SS X T ca xa cx G0 H0 W st fun env => if p then f env else .bad := by
  by_cases q : p
  · simp only [if_pos q]; exact h q
  · simp only [if_neg q]
    exact ⟨fun pins s σ H D I ⟨_, _, _, z⟩ => z.elim⟩
theorem step_ss (S : SndS n T ca xa K) {st : List Stmt} {t : List PL.S} (F : Kf X T ca xa K) (C : CokS X c cx W) (h : cSs T (n + 1) c st t = true) : SSs X T ca xa cx G0 H0 W st (exss K t) := by
  unfold cSs at h
  split at h
  · cases h
  · exact sss_congr ss_nil fun env => by simp only [exss]
  · rename_i e1
    cases e1
    obtain ⟨h1, h2⟩ := ba h
    exact sss_congr (ss_cons (S.s F C h1) (S.ss F C h2)) fun env => by simp only [exss] <;> rfl
  · cases h
theorem step_hs (S : SndS n T ca xa K) {st : List ExceptHandler} {t : List (Nat × Option Nat × List PL.S)} (F : Kf X T ca xa K) (C : CokS X c cx W) (h : cHs T (n + 1) c st t = true) : HdR X T ca xa cx G0 H0 st (t.map fun p => (p.1, p.2.1, exss K p.2.2)) := by
  unfold cHs at h
  split at h
  · cases h
  · exact .nil
  · rename_i e1
    cases e1
    split at h
    · obtain ⟨h1, h⟩ := ba h
      obtain ⟨h2, h⟩ := ba h
      obtain ⟨h3, h⟩ := ba h
      obtain ⟨h4, h5⟩ := ba h
      obtain ⟨g1, g2⟩ := C.glo h1
      split at h2
      · rename_i xi ex
        obtain rfl := of_decide_eq_true h2
        obtain ⟨q1, _⟩ := F.exc _ xi ex
        have nm : Names _ xi.name (.ref (xa _)) := ⟨g1, g2, .inl q1⟩
        have hm := F.exm _ xi ex
        have r := S.hs (G0 := G0) (H0 := H0) F C h5
        have su : ∀ (a : Addr) (oe : Obj) (cls : Value) (d : Option Addr) (pn : List (Addr × Obj)), L2N.Zn cls d oe → (∃ vs, oe.data = .fields vs) → PSs (X.suite a ((a, oe) :: pn)) _ (sR (PX X T ca xa) ⟨cx.hk, some (a, cls, d), cx.ob⟩ G0 H0 W0 _) := fun a oe cls d pn hz hv => S.ss (F.suite a _) (C.suite pn hz hv) h4
        split at h3
        · exact .bare nm hm su r
        · obtain ⟨k1, k2⟩ := ba h3
          exact .named nm hm (by rw [C.N]; exact of_decide_eq_true k1) (C.loc k2) su r
        · cases h3
      · cases h2
    · cases h
  · cases h
theorem step_s (S : SndS n T ca xa K) {st : Stmt} {t : PL.S} (F : Kf X T ca xa K) (C : CokS X c cx W) (h : cS T (n + 1) c st t = true) : SS X T ca xa cx G0 H0 W st (exs K t) := by
  have E := snd_all (T := T) (ca := ca) (xa := xa) (K := K) n
  have C1 := C.toCok
  cases t with
  | asg fr i e =>
    simp only [cS] at h
    split at h
    · rename_i x p1 v pos
      rcases Bool.or_eq_true_iff.mp h with h | h
      · obtain ⟨h1, h⟩ := ba h
        obtain ⟨h2, h3⟩ := ba h
        obtain ⟨g1, g2, g3⟩ := C1.set h2
        exact ss_congr (ss_asg C.nd g1 g2 g3 (E.e F C1 h3) (sw_no h1)) fun env => by simp only [exs] <;> rfl
      · split at h
        · rename_i elt tg' iter ifs a scope p2 tg it cs el own
          rcases Bool.or_eq_true_iff.mp h with h | h
          rotate_left 1
          · obtain ⟨h1, h⟩ := ba h
            obtain ⟨h2, h3⟩ := ba h
            obtain ⟨g1, g2, g3⟩ := C1.set h2
            exact ss_congr (ss_asg C.nd g1 g2 g3 (E.e F C1 h3) (sw_cell (C1.cel h1))) fun env => by simp only [exs] <;> rfl
          obtain ⟨h1, h⟩ := ba h
          obtain ⟨h2, h⟩ := ba h
          obtain ⟨h3, h⟩ := ba h
          obtain ⟨h4, h⟩ := ba h
          obtain ⟨h5, h⟩ := ba h
          obtain ⟨h6, h⟩ := ba h
          obtain ⟨h7, h⟩ := ba h
          obtain ⟨h8, h9⟩ := ba h
          obtain ⟨b1, b2, b3, b4⟩ := E.bk (G0 := G0) (H0 := H0) F C1 h6 h9
          obtain rfl := of_decide_eq_true h5
          have q := ss_setLc (fr := fr) (pos := pos) (p1 := p1) (W := W) (C.calm h6) C.nd (by rw [C.N]; exact of_decide_eq_true h1) (C1.loc h2) C.kind (by simpa using h3) (by simpa using h4) (E.ic F C1 h8) b1 b4 h7 (by rw [b2]; exact b3)
          refine ss_congr q fun env => ?_
          rw [b2]
          simp only [exs, ev]
          rfl
        · obtain ⟨h1, h⟩ := ba h
          obtain ⟨h2, h3⟩ := ba h
          obtain ⟨g1, g2, g3⟩ := C1.set h2
          exact ss_congr (ss_asg C.nd g1 g2 g3 (E.e F C1 h3) (sw_cell (C1.cel h1))) fun env => by simp only [exs] <;> rfl
        · cases h
    · cases h
  | asgt fr is e =>
    simp only [cS] at h
    split at h
    · obtain ⟨h1, h⟩ := ba h
      obtain ⟨h2, h⟩ := ba h
      obtain ⟨h3, h4⟩ := ba h
      exact ss_congr (ss_asgt C.st (C.calm h1) C.nd (by rw [C.N]; exact h2) (E.e F C1 h4) h3) fun env => by simp only [exs] <;> rfl
    · cases h
  | aug i o e =>
    simp only [cS] at h
    split at h
    · obtain ⟨h1, h⟩ := ba h
      obtain ⟨h2, h3⟩ := ba h
      obtain ⟨g1, g2, g3⟩ := C1.set h2
      obtain rfl := of_decide_eq_true h1
      exact ss_congr (ss_aug C.nd g1 g2 g3 (E.e F C1 h3)) fun env => by simp only [exs] <;> rfl
    · cases h
  | app fr i e =>
    simp only [cS] at h
    split at h
    · obtain ⟨h1, h⟩ := ba h
      obtain ⟨h2, h⟩ := ba h
      obtain ⟨h3, h⟩ := ba h
      obtain ⟨h4, h5⟩ := ba h
      obtain ⟨g1, g2, g3, g4⟩ := C1.var h2
      obtain rfl := of_decide_eq_true h1
      exact ss_congr (ss_app g1 g2 g3 g4 (E.e F C1 h5) h3 (beq_iff_eq.mpr (of_decide_eq_true h4))) fun env => by simp only [exs] <;> rfl
    · cases h
  | seti fr i k e =>
    simp only [cS] at h
    split at h
    · obtain ⟨h1, h⟩ := ba h
      obtain ⟨h2, h⟩ := ba h
      obtain ⟨h3, h4⟩ := ba h
      obtain ⟨g1, g2, g3, g4⟩ := C1.var h1
      exact ss_congr (ss_seti g1 g2 g3 g4 (E.e F C1 h3) (E.e F C1 h4) h2) fun env => by simp only [exs] <;> rfl
    · cases h
  | augi i k o e =>
    simp only [cS] at h
    split at h
    · obtain ⟨h0, h⟩ := ba h
      obtain ⟨h1, h⟩ := ba h
      obtain ⟨h2, h⟩ := ba h
      obtain ⟨h3, h4⟩ := ba h
      obtain ⟨g1, g2, g3, g4⟩ := C1.var h1
      obtain rfl := of_decide_eq_true h0
      exact ss_congr (ss_augi g1 g2 g3 g4 (E.e F C1 h3) (E.e F C1 h4) h2) fun env => by simp only [exs] <;> rfl
    · cases h
  | setf fr k j e =>
    simp only [cS] at h
    split at h
    · obtain ⟨h1, h⟩ := ba h
      obtain ⟨h2, h⟩ := ba h
      split at h
      · rename_i ci ec
        obtain ⟨g1, g2, g3, g4⟩ := C1.var h1
        exact ss_congr (ss_setf g1 g2 g3 g4 (E.e F C1 h2) (F.cls_ok ec) (of_decide_eq_true h) (F.cls k ci ec).2.2) fun env => by simp only [exs] <;> rfl
      · cases h
    · cases h
  | ite fr t a b =>
    simp only [cS] at h
    split at h
    · obtain ⟨h1, h⟩ := ba h
      obtain ⟨h2, h3⟩ := ba h
      exact ss_congr (ss_ite (E.t F C1 h1) (S.ss F C h2) (S.ss F C h3)) fun env => by simp only [exs] <;> rfl
    · cases h
  | whl fr t b =>
    simp only [cS] at h
    split at h
    · obtain ⟨h1, h⟩ := ba h
      obtain ⟨h2, h3⟩ := ba h
      exact ss_congr (ss_whl (n := K.fuel) (C.po h1) (E.t F C1 h2) (S.ss F C h3)) fun env => by simp only [exs] <;> rfl
    · cases h
  | forl fr tg it b =>
    simp only [cS] at h
    split at h
    · obtain ⟨h1, h⟩ := ba h
      obtain ⟨h2, h⟩ := ba h
      obtain ⟨h3, h⟩ := ba h
      obtain ⟨h4, h5⟩ := ba h
      exact ss_congr (ss_for (C.po h1) (C.calm h1) C.st C.nd (E.ifr F C1 h4) (by rw [C.N]; exact h2) (fun G0 H0 => S.ss F C h5) h3) fun env => by simp only [exs] <;> rfl
    · cases h
  | ret fr e =>
    simp only [cS] at h
    split at h
    · exact ss_congr (ss_ret (E.e F C1 h)) fun env => by simp only [exs] <;> rfl
    · cases h
  | retn =>
    simp only [cS] at h
    split at h
    · exact ss_congr ss_retn fun env => by simp only [exs] <;> rfl
    · cases h
  | reto i =>
    simp only [cS] at h
    split at h
    · obtain ⟨g1, g2, g3, g4⟩ := C1.var h
      exact ss_congr (ss_reto g1 g2 g3 g4) fun env => by simp only [exs] <;> rfl
    · cases h
  | ex fr e =>
    simp only [cS] at h
    split at h
    · obtain ⟨h1, h2⟩ := ba h
      exact ss_congr (ss_ex (E.e F C1 h2) h1) fun env => by simp only [exs] <;> rfl
    · cases h
  | pass =>
    simp only [cS] at h
    split at h
    · exact ss_congr ss_pass fun env => by simp only [exs] <;> rfl
    · exact ss_congr ss_doc fun env => by simp only [exs] <;> rfl
    · cases h
  | cont =>
    simp only [cS] at h
    split at h
    · exact ss_congr ss_cont fun env => by simp only [exs] <;> rfl
    · cases h
  | rais k es =>
    simp only [cS] at h
    split at h
    · obtain ⟨h1, h⟩ := ba h
      obtain ⟨h2, h⟩ := ba h
      split at h
      · rename_i xi ec
        obtain ⟨h3, h⟩ := ba h
        obtain ⟨q1, q2, q3, q4, q5, _⟩ := F.exc k xi ec
        have hx := of_decide_eq_true h3
        split at h
        · rename_i ef
          split at h
          · obtain ⟨k1, k2⟩ := ba h
            subst hx
            obtain ⟨g1, g2⟩ := C1.glo h2
            exact ss_congr (ss_rais0 (C.calm h1) C.tk (q2 ef) g1 g2 (E.e F C1 k2) k1) fun env => by simp only [exs, evs] <;> rfl
          · cases h
        · rename_i f0 fs ef
          obtain ⟨k1, k2⟩ := ba h
          have hl := of_decide_eq_true k1
          have ne : xi.fields ≠ [] := by rw [ef]; simp
          have hlen : xi.fields.length = fs.length + 1 := by rw [ef]; rfl
          obtain ⟨l1, l2⟩ := cEs_len k2
          subst hx
          obtain ⟨g1, g2⟩ := C1.glo h2
          exact ss_congr (ss_raisX (C.calm h1) C.tk (q3 ne (C.calm h1)) g1 g2 (E.es F C1 k2) l1 (by simp) fun env ds e => by rw [evs_len K e, hl, ← hlen]) fun env => by simp only [exs] <;> rfl
      · cases h
    · cases h
  | asgo fr i o =>
    simp only [cS] at h
    split at h
    · obtain ⟨h1, h⟩ := ba h
      obtain ⟨h2, h3⟩ := ba h
      obtain ⟨g1, g2, g3⟩ := C1.set h2
      refine ss_congr (ss_when (p := oeSl o = []) fun e => ?_) fun env => by simp only [exs] <;> rfl
      have q := oe_ok (G0 := G0) (H0 := H0) F C1 (by rw [e]; simp) h3
      rw [e] at q
      exact ss_asgo C.nd g1 g2 g3 q (sw_no h1)
    · cases h
  | asgot fr is o =>
    simp only [cS] at h
    split at h
    · obtain ⟨h1, h⟩ := ba h
      obtain ⟨h2, h⟩ := ba h
      obtain ⟨h3, h4⟩ := ba h
      refine ss_congr (ss_when (p := oeSl o = []) fun e => ?_) fun env => by simp only [exs] <;> rfl
      have q := oe_ok (G0 := G0) (H0 := H0) F C1 (by rw [e]; simp) h4
      rw [e] at q
      exact ss_asgot C.st (C.calm h1) C.nd (by rw [C.N]; exact h2) q h3
    · cases h
  | retd fr o =>
    simp only [cS] at h
    split at h
    · refine ss_congr (ss_when (p := (oeSl o).Nodup) fun e => ?_) fun env => by simp only [exs] <;> rfl
      exact ss_retd (oe_ok (G0 := G0) (H0 := H0) F C1 e h)
    · cases h
  | appd fr tf i ks e =>
    simp only [cS] at h
    split at h
    · obtain ⟨h1, h⟩ := ba h
      obtain ⟨h2, h⟩ := ba h
      obtain ⟨h3, h⟩ := ba h
      obtain ⟨h4, h5⟩ := ba h
      obtain rfl := of_decide_eq_true h1
      exact ss_congr (ss_appd (pth_ok C1 h2) (E.e F C1 h5) h3 (beq_iff_eq.mpr (of_decide_eq_true h4))) fun env => by simp only [exs] <;> rfl
    · cases h
  | setd fr tf i ks k e =>
    simp only [cS] at h
    split at h
    · obtain ⟨h1, h⟩ := ba h
      obtain ⟨h2, h⟩ := ba h
      obtain ⟨h3, h4⟩ := ba h
      exact ss_congr (ss_setd (pth_ok C1 h1) (key_ok C1 h2) h3 (E.e F C1 h4)) fun env => by simp only [exs] <;> rfl
    · cases h
  | asgT fr tf i e =>
    simp only [cS] at h
    split at h
    · obtain ⟨h1, h⟩ := ba h
      obtain ⟨h2, h3⟩ := ba h
      obtain ⟨g1, g2, g3⟩ := C1.set h2
      exact ss_congr (ss_asgT C.nd g1 g2 g3 (E.e F C1 h3) (sw_no h1)) fun env => by simp only [exs] <;> rfl
    · cases h
  | iteT fr tf t a b =>
    simp only [cS] at h
    split at h
    · obtain ⟨h1, h⟩ := ba h
      obtain ⟨h2, h3⟩ := ba h
      exact ss_congr (ss_iteT (E.t F C1 h1) (S.ss F C h2) (S.ss F C h3)) fun env => by simp only [exs] <;> rfl
    · cases h
  | exT fr tf e =>
    simp only [cS] at h
    split at h
    · obtain ⟨h1, h2⟩ := ba h
      exact ss_congr (ss_exT (E.e F C1 h2) h1) fun env => by simp only [exs] <;> rfl
    · cases h
  | th s l =>
    simp only [cS] at h
    exact ss_congr (ss_th l (S.s F C h)) fun env => by simp only [exs]
  | fz l =>
    simp only [cS] at h
    cases h
  | apop fr i j =>
    simp only [cS] at h
    split at h
    · obtain ⟨h1, h⟩ := ba h
      obtain ⟨h2, h⟩ := ba h
      obtain ⟨h3, h⟩ := ba h
      obtain ⟨h4, h⟩ := ba h
      obtain ⟨h5, h⟩ := ba h
      obtain ⟨h6, h7⟩ := ba h
      obtain rfl := of_decide_eq_true h1
      obtain rfl := of_decide_eq_true h2
      obtain ⟨a1, a2, a3, a4⟩ := C1.var h3
      obtain ⟨b1, b2, b3, b4⟩ := C1.var h4
      exact ss_congr (ss_apop a1 a2 a3 a4 b1 b2 b3 b4 (of_decide_eq_true h5) (beq_iff_eq.mpr (of_decide_eq_true h6)) (beq_iff_eq.mpr (of_decide_eq_true h7))) fun env => by simp only [exs] <;> rfl
    · cases h
  | retT fr tf e =>
    simp only [cS] at h
    split at h
    · exact ss_congr (ss_retT (E.e F C1 h)) fun env => by simp only [exs] <;> rfl
    · cases h
  | «try» b hs =>
    simp only [cS] at h
    split at h
    · obtain ⟨h1, h⟩ := ba h
      obtain ⟨h2, h3⟩ := ba h
      refine ss_congr (ss_try C.fr.1 C.fr.2 C.nd C.tk (C.cold h1) (fun W' pn xe tk hp => S.ss (F.tr pn xe) (C.tr h1 pn xe tk hp) h2) (S.hs F C h3)) fun env => ?_
      simp only [exs, hdsF_eq]
      try rfl
    · cases h
theorem sndS_all : ∀ n : Nat, SndS n T ca xa K
  | 0 => ⟨fun _ _ h => by simp [cS] at h, fun _ _ h => by simp [cSs] at h, fun _ _ h => by simp [cHs] at h⟩
  | n + 1 =>
    have S := sndS_all n
    ⟨fun F C h => step_s S F C h, fun F C h => step_ss S F C h, fun F C h => step_hs S F C h⟩
end
end PL

set_option linter.all false
set_option Elab.async false
set_option maxRecDepth 100000
set_option maxHeartbeats 4000000
/-! From texts to promises: defs, classes, errors. -/
namespace PL
open PySem PySem.Spec PyProof.Rows L2
/-! ### plain parameters -/
theorem zip_look {n : Str} : ∀ {ps : List Str} {us : List Value}, us.length = ps.length → n ∈ ps → ∃ v, (ps.zip us).lookup n = some v := by
  intro ps
  induction ps with
  | nil => intro us _ h; simp at h
  | cons p ps ih =>
    intro us hl h
    cases us with
    | nil => simp at hl
    | cons u us =>
      rw [List.zip_cons_cons, List.lookup_cons]
      by_cases q : n = p
      · subst q; exact ⟨u, by simp⟩
      · have : (n == p) = false := beq_eq_false_iff_ne.mpr q
        rw [this]
        exact ih (by simpa using hl) (by simpa [q] using h)
theorem fm_congr {α β : Type} {f g : α → Option β} : ∀ {l : List α}, (∀ a ∈ l, f a = g a) → l.filterMap f = l.filterMap g
  | [], _ => rfl
  | a :: l, h => by
    rw [List.filterMap_cons, List.filterMap_cons, h a List.mem_cons_self, fm_congr fun b hb => h b (List.mem_cons_of_mem _ hb)]
theorem zip_filt : ∀ {ps : List Str} {us : List Value}, ps.Nodup → us.length = ps.length → ps.filterMap (fun n => ((ps.zip us).lookup n).map (n, ·)) = ps.zip us := by
  intro ps
  induction ps with
  | nil => intro us _ h; cases us <;> simp at h ⊢
  | cons p ps ih =>
    intro us nd hl
    cases us with
    | nil => simp at hl
    | cons u us =>
      have nd2 := List.nodup_cons.mp nd
      rw [List.zip_cons_cons, List.filterMap_cons]
      have e1 : List.lookup p ((p, u) :: ps.zip us) = some u := by simp [List.lookup_cons]
      rw [e1]
      simp only [Option.map_some]
      congr 1
      refine Eq.trans (fm_congr fun n hn => ?_) (ih (us := us) nd2.2 (by simpa using hl))
      have : (n == p) = false := beq_eq_false_iff_ne.mpr fun z => nd2.1 (z ▸ hn)
      rw [List.lookup_cons, this]
theorem bind_plain {fd : FuncData} {ps : List Str} (h1 : fd.params.posonlyargs = []) (h2 : fd.params.args.map (·.arg) = ps) (h3 : fd.params.vararg = none) (h4 : fd.params.kwonlyargs = []) (h5 : fd.params.kwarg = none) (h6 : fd.defaults = .none) (nd : ps.Nodup) {us : List Value} (hl : us.length = ps.length) :
    bindArgs fd ⟨us, []⟩ = pure (ps.zip us) := by
  unfold bindArgs
  have e1 : seqItems? fd.defaults = pure none := by rw [h6]; rfl
  have e2 : (ps.filter fun n => ((ps.zip us).lookup n).isNone) = [] := by
    rw [List.filter_eq_nil_iff]
    intro n hn
    obtain ⟨v, e⟩ := zip_look hl hn
    rw [e]
    simp
  have e3 := zip_filt (us := us) nd hl
  simp only [h1, h2, h3, h4, h5, e1, List.map_nil, List.nil_append, List.append_nil, List.forIn_nil, pure_bind, Option.getD_none, hl, Option.isNone_none, Bool.and_true, Nat.lt_irrefl, decide_false, Bool.false_eq_true, if_false, List.length_nil, Nat.sub_zero, List.take_length, List.drop_length, e2, List.isEmpty_nil, Bool.not_true, List.zip_nil_right, e3, List.drop_nil, Nat.zero_sub, List.drop_zero, gt_iff_lt]
/-- plain parameters, no defaults -/
def plainB (d : He.DefD) (ps : List Str) : Bool := d.params.posonlyargs.isEmpty && (decide (d.params.args.map (·.arg) = ps) && (d.params.vararg.isNone && (d.params.kwonlyargs.isEmpty && (d.params.kwarg.isNone && (d.dfl.isEmpty && (d.kwd.isEmpty && decide ps.Nodup))))))
abbrev FunP (K : PySem.W.Frag) (d : He.DefD) (fd : FuncData) : Prop := FunD K d.name d.qual d.params d.body d.scope (d.dvs K) (d.kws K) (He.fAd K d.at_) fd
theorem plain_binds {K : PySem.W.Frag} {d : He.DefD} {fd : FuncData} {ps : List Str} (F : FunP K d fd) (h : plainB d ps = true) : (∀ us : List Value, us.length = ps.length → bindArgs fd ⟨us, []⟩ = pure (ps.zip us)) := by
  simp only [plainB, Bool.and_eq_true, decide_eq_true_eq, List.isEmpty_iff, Option.isNone_iff_eq_none] at h
  obtain ⟨h1, h2, h3, h4, h5, h6, h7, h8⟩ := h
  obtain ⟨oc, od, dV, kV, doc, pm, an, cdv, ct, osl, rfl, lk, hcd, hD, hK⟩ := F.ex
  intro us hl
  have hd : dV = .none := by
    rcases hD with ⟨_, e⟩ | ⟨e, _⟩
    · exact e
    · exact absurd (show He.DefD.dvs K d = [] from by unfold He.DefD.dvs; rw [h6]; rfl) e
  exact bind_plain h1 h2 h3 h4 h5 hd h8 hl
/-- the names of a def -/
def scopeB (N ps : List Str) (sc : Scope) : Bool := (match sc.kind with | .function => true | _ => false) && (!sc.isCoroutine && (!sc.isGenerator && (decide N.Nodup && (decide (N.take ps.length = ps) && (ps.all (fun x => locB sc x || celB sc x) && sc.names.all fun y => match y.2 with | .free => false | _ => true)))))
theorem scope_ok {N ps : List Str} {sc : Scope} (h : scopeB N ps sc = true) : FnScope N ps sc := by
  simp only [scopeB, Bool.and_eq_true, decide_eq_true_eq, Bool.not_eq_true', List.all_eq_true, Bool.or_eq_true] at h
  obtain ⟨h1, h2, h3, h4, h5, h6, h7⟩ := h
  refine ⟨?_, h2, h3, h4, h5, fun x hx => ?_, fun y hy e => ?_⟩
  · split at h1
    · assumption
    · cases h1
  · rcases h6 x hx with q | q
    · unfold locB at q
      split at q
      · exact .inl (by assumption)
      · cases q
    · unfold celB at q
      split at q
      · exact .inr (by assumption)
      · cases q
  · have := h7 y hy
    rw [e] at this
    cases this
/-! ### an error's __init__ -/
def asgsB : List Str → List Stmt → Bool
  | [], [] => true
  | f :: fs, st :: r => (match st with
    | .Assign [.Attribute (.Name s _) g _] (.Name y _) _ => decide (s = "self") && (decide (g = f) && (decide (y = f) && asgsB fs r))
    | _ => false)
  | _, _ => false
def initB (fs : List Str) (b : List Stmt) : Bool := match b with
  | .Expr (.Constant (.str _) _ _) _ :: r => asgsB fs r
  | b => asgsB fs b
def selfN : Str := "self"
def xselB (xi : ExI) (d : He.DefD) : Bool := plainB d (selfN :: xi.fields) && (scopeB (selfN :: xi.fields) (selfN :: xi.fields) d.scope && (initB xi.fields d.body && (decide xi.fields.Nodup && (decide (xi.fields.length ≤ 900) && ((selfN :: xi.fields).all fun f => visB d.scope f && (dbgB f && cdB f))))))
section
variable {X : Cx} {C : Addr}
theorem zip_take_succ {f : Str} {v : V} : ∀ {fields : List Str} {ws : List V} {j : Nat}, fields[j]? = some f → ws[j]? = some v → ((fields.zip ws).take (j + 1)).reverse = (f, v) :: ((fields.zip ws).take j).reverse := fun {fields ws j} h1 h2 => by
  have e : (fields.zip ws)[j]? = some (f, v) := by
    rw [List.getElem?_zip_eq_some]
    exact ⟨h1, h2⟩
  rw [List.take_add_one, e]
  simp
theorem init_body (T : OexC X.K C) {fields : List Str} (hno : ∀ f ∈ fields, PySem.W.findIn X.K (.ref C) f = some none) (hN : X.N = selfN :: fields) (hv : ∀ x ∈ X.N, Vis X.env.scope x) (hd : ∀ f ∈ X.N, dbgB f = true ∧ cdB f = true) (hl : fields.length ≤ 900) {a : Addr} {ws : List V} (hw : ws.length = fields.length) :
    ∀ (body : List Stmt) (j : Nat), asgsB (fields.drop j) body = true → j ≤ fields.length → ∃ t, PSs X body t ∧ ∀ (D : Ends) (H : Hp),
      ((j = 0 ∧ fields ≠ [] ∧ H a = some (exo a C none) ∧ ∀ dx, H dx = none → dx ≠ a → D.nx ((V.ref a :: ws).map some) (upd (upd H dx (exd dx (xfv fields ws))) a (exo a C (some dx)))) ∨
        ∃ dx, dx ≠ a ∧ H a = some (exo a C (some dx)) ∧ H dx = some (exd dx ((fields.zip ws).take j).reverse) ∧ D.nx ((V.ref a :: ws).map some) (upd H dx (exd dx (xfv fields ws)))) → t D ((V.ref a :: ws).map some) H := by
  intro body
  induction body with
  | nil =>
    intro j h hj
    have e : fields.drop j = [] := by
      cases q : fields.drop j with
      | nil => rfl
      | cons a b => rw [q] at h; simp [asgsB] at h
    have ej : j = fields.length := by
      have := congrArg List.length e
      rw [List.length_drop, List.length_nil] at this
      omega
    refine ⟨_, pss_nil, fun D H q => ?_⟩
    rcases q with ⟨q1, q2, _⟩ | ⟨dx, hne, ha, hdx, q⟩
    · subst q1
      exact absurd (List.length_eq_zero_iff.mp ej.symm) q2
    · have e2 : ((fields.zip ws).take j).reverse = xfv fields ws := by
        unfold xfv
        rw [List.take_of_length_le (by rw [List.length_zip]; omega)]
      rw [e2] at hdx
      have e3 : upd H dx (exd dx (xfv fields ws)) = H := by
        funext b
        by_cases hb : b = dx
        · rw [hb, upd_same, hdx]
        · rw [upd_ne hb]
      rw [e3] at q
      exact q
  | cons st r ih =>
    intro j h hj
    cases q : fields.drop j with
    | nil => rw [q] at h; simp [asgsB] at h
    | cons f fs =>
      rw [q] at h
      simp only [asgsB] at h
      split at h
      · rename_i s0 p1 g p2 y p3 p4
        obtain ⟨h1, h⟩ := ba h
        obtain ⟨h2, h⟩ := ba h
        obtain ⟨h3, h4⟩ := ba h
        have e1 : s0 = selfN := of_decide_eq_true h1
        have e2 := (of_decide_eq_true h2).symm
        have e3 := (of_decide_eq_true h3).symm
        subst e1
        subst e2
        subst e3
        have hjl : j < fields.length := by
          have := congrArg List.length q
          rw [List.length_drop, List.length_cons] at this
          omega
        have hf : fields[j]? = some f := by
          have : (fields.drop j)[0]? = some f := by rw [q]; rfl
          rw [List.getElem?_drop] at this
          simpa using this
        have hfs : fields.drop (j + 1) = fs := by
          have : (fields.drop j).drop 1 = fs := by rw [q]; rfl
          rw [List.drop_drop] at this
          exact this
        have hmem : f ∈ fields := List.mem_of_getElem? hf
        obtain ⟨v, hv1⟩ : ∃ v, ws[j]? = some v := by
          cases e : ws[j]? with
          | none => rw [List.getElem?_eq_none_iff] at e; omega
          | some v => exact ⟨v, rfl⟩
        have n0 : X.N[0]? = some selfN := by rw [hN]; rfl
        have nj : X.N[j + 1]? = some f := by rw [hN]; simpa using hf
        have m0 : selfN ∈ X.N := by rw [hN]; exact List.mem_cons_self
        have mf : f ∈ X.N := by rw [hN]; exact List.mem_cons_of_mem _ hmem
        obtain ⟨t, ht, k⟩ := ih (j + 1) (by rw [hfs]; exact h4) (by omega)
        refine ⟨_, pss_cons (ps_ost (pe_var (i := 0) n0 (hv _ m0) (dbg_ok (hd _ m0).1) (cd_ok (hd _ m0).2)) (pe_var (i := j + 1) nj (hv _ mf) (dbg_ok (hd _ mf).1) (cd_ok (hd _ mf).2)) (by rfl)) ht, fun D H z => ?_⟩
        have s0 : ((V.ref a :: ws).map some)[0]? = some (some (V.ref a)) := rfl
        have sj : ((V.ref a :: ws).map some)[j + 1]? = some (some v) := by
          simp only [List.map_cons, List.getElem?_cons_succ, List.getElem?_map, hv1, Option.map_some]
        refine ⟨v, sj, .ref a, s0, a, C, rfl, T, hno f hmem, ?_⟩
        rcases z with ⟨z1, z2, z3, z4⟩ | ⟨dx, hne, ha, hdx, z⟩
        · subst z1
          refine .inl ⟨z3, fun dx hn hne => k _ _ (.inr ⟨dx, hne, upd_same, ?_, ?_⟩)⟩
          · rw [upd_ne hne, upd_same, zip_take_succ hf hv1]
            simp
          · have e : upd (upd (upd H dx (exd dx [(f, v)])) a (exo a C (some dx))) dx (exd dx (xfv fields ws)) = upd (upd H dx (exd dx (xfv fields ws))) a (exo a C (some dx)) := by
              funext b
              by_cases hb : b = dx
              · subst hb; rw [upd_same, upd_ne hne, upd_same]
              · rw [upd_ne hb]
                by_cases hb2 : b = a
                · subst hb2; rw [upd_same, upd_same]
                · rw [upd_ne hb2, upd_ne hb2, upd_ne hb, upd_ne hb]
            rw [e]
            exact z4 dx hn hne
        · refine .inr ⟨dx, _, ha, hdx, ?_, k _ _ (.inr ⟨dx, hne, ?_, ?_, ?_⟩)⟩
          · rw [List.length_reverse, List.length_take, List.length_zip]
            omega
          · rw [upd_ne (Ne.symm hne)]; exact ha
          · rw [upd_same, zip_take_succ hf hv1]
          · rw [upd_upd]; exact z
      · cases h
end
/-- its promise is kept -/
theorem init_ok {P : Program} {w : World} {K : PySem.W.Frag} {mg : Str → Option Value} {base : Heap} {C : Addr} {xi : ExI} {d : He.DefD} {fd : FuncData} (F : FunP K d fd) (T : OexC K C) (hno : ∀ f ∈ xi.fields, PySem.W.findIn K (.ref C) f = some none) (hne : xi.fields ≠ []) (h : xselB xi d = true) :
    FnOk P w K mg base (L2N.CX P w) 1 (He.fAd K d.at_) fd (selfN :: xi.fields) (spX C xi.fields (selfN :: xi.fields).length) := by
  simp only [xselB, Bool.and_eq_true, decide_eq_true_eq, List.all_eq_true] at h
  obtain ⟨h1, h2, h3, h4, h5, h6⟩ := h
  have S := scope_ok h2
  refine F.ok S spX_len fun cdv A outer s H vs Q E hr hsp => ?_
  obtain ⟨_, a, ws, rfl, hw, ha, hq⟩ := hsp
  have hb := init_body (X := cxOf (L2N.CX P w) P w K mg base (selfN :: xi.fields) d.qual d.scope (He.fAd K d.at_) cdv A outer s H E) T hno rfl (fun x hx => visB_ok (h6 x hx).1) (fun x hx => ⟨(h6 x hx).2.1, (h6 x hx).2.2⟩) h5 (a := a) hw
  have est : L2.start (selfN :: xi.fields) (V.ref a :: ws) = (V.ref a :: ws).map some := by
    unfold L2.start
    rw [List.length_cons, List.length_cons, hw, Nat.sub_self]
    simp
  rw [est]
  have fin : ∀ body, asgsB (xi.fields.drop 0) body = true → ∃ t, PSs (cxOf (L2N.CX P w) P w K mg base (selfN :: xi.fields) d.qual d.scope (He.fAd K d.at_) cdv A outer s H E) body t ∧ t { nx := fun _ H' => Q .non H', rt := Q } ((V.ref a :: ws).map some) H := fun body hbd => by
    obtain ⟨t, ht, k⟩ := hb body 0 hbd (Nat.zero_le _)
    exact ⟨t, ht, k _ _ (.inl ⟨rfl, hne, ha, fun dx hn hne => hq dx hn hne⟩)⟩
  unfold initB at h3
  split at h3
  · rename_i e
    rw [e]
    obtain ⟨t, ht, k⟩ := fin _ h3
    exact ⟨_, pss_cons ps_doc ht, k⟩
  · exact fin _ h3
end PL

set_option linter.all false
set_option Elab.async false
set_option maxRecDepth 100000
set_option maxHeartbeats 4000000
/-! A checked def keeps what sem says. -/
namespace PL
open PySem PySem.Spec PyProof.Rows L2
def atB (T : Tab) (fi : FnI) (d : He.DefD) : Bool := match fi.at_ with
  | .glo => decide (d.at_ = (fi.name, none)) && (fi.fn.ini.isNone && decide (fi.fn.pm.length = fi.ps.length))
  | .meth c => (match T.cls[c]? with
    | some ci => decide (d.at_ = (ci.name, some fi.name)) && (fi.fn.ini.isNone && (decide (fi.fn.pm.length = fi.ps.length) && (decide (fi.fn.pm.head? = some false) && decide (fi.name ∉ ci.fields))))
    | none => false)
  | .ini c => (match T.cls[c]? with
    | some ci => decide (d.at_ = (ci.name, some ("__init__" : Str))) && (decide (fi.fn.ini = some c) && decide (fi.fn.pm.length + 1 = fi.ps.length))
    | none => false)
def defB (T : Tab) (n : Nat) (fi : FnI) (d : He.DefD) : Bool :=
  plainB d fi.ps && (scopeB fi.N fi.ps d.scope && (decide (fi.fn.ns = fi.N.length) && (atB T fi d && (cSs T n ⟨fi.N, d.scope, true, false, false⟩ d.body fi.fn.body && (!fi.hot || cSs T n ⟨fi.N, d.scope, false, true, false⟩ d.body fi.fn.body)))))
section
variable {P : Program} {w : World} {K : PySem.W.Frag} {mg : Str → Option Value} {base : Heap} {T : Tab} {ca xa : Nat → Addr} {C : Ctx}
/-- the frame at the start -/
theorem start_len {N : List Str} {vs : List V} (h : vs.length ≤ N.length) : (L2.start N vs).length = N.length := by
  unfold L2.start
  rw [List.length_append, List.length_map, List.length_replicate]
  omega
theorem start_get {N : List Str} {vs : List V} {i : Nat} {v : V} (h : vs[i]? = some v) : (L2.start N vs)[i]? = some (some v) := by
  have hl := (List.getElem?_eq_some_iff.mp h).1
  unfold L2.start
  rw [List.getElem?_append_left (by simpa using hl), List.getElem?_map, h]
  rfl
theorem startE_len : ∀ {pm : List Bool} {ds : List D}, pm.length = ds.length → (startE pm ds).length = ds.length
  | [], [], _ => rfl
  | b :: bs, d :: ds, h => by
    simp only [startE, List.length_cons]
    rw [startE_len (by simpa using h)]
  | [], _ :: _, h => by simp at h
  | _ :: _, [], h => by simp at h
theorem startE_get {Pr : Par} {hk : Hp} {cx : Hand} {H0 G H : Hp} (hx : cx.hk = H) (s : Same G H) : ∀ {pm : List Bool} {vs : List V} {ds : List D} {i : Nat} {sl : Sl}, RAL Pr G H pm vs ds → (startE pm ds)[i]? = some sl → (∃ v, vs[i]? = some v ∧ ∀ o, o = some (some v) → SlR Pr cx H0 G H o sl) ∧ (∀ (h : Hp) o p, ¬ held h sl o p) ∧ ∀ w, sl ≠ .dp w
  | _, _, _, i, sl, .nil, e => by simp [startE] at e
  | _, _, _, 0, sl, .look (v := v) (d := d) h r, e => by
    simp only [startE, List.getElem?_cons_zero, Option.some.injEq] at e
    subst e
    cases d with
    | lst xs =>
      refine ⟨⟨v, rfl, fun o eo => ?_⟩, fun _ o p hh => hh.elim, fun w z => nomatch z⟩
      subst eo
      rcases h with h | ⟨p, us, es, e1, e2, h1, h2⟩
      · cases h with
        | lst h r2 => exact ⟨_, _, rfl, by rw [hx]; exact SqL.of (s _ _ h), r2⟩
      · cases e2
        subst e1
        exact ⟨p, us, rfl, by rw [hx]; exact h1, h2⟩
    | _ =>
      refine ⟨⟨v, rfl, fun o eo => ?_⟩, fun _ o p hh => hh.elim, fun w z => nomatch z⟩
      subst eo
      rcases h with h | ⟨p, us, es, e1, e2, h1, h2⟩
      · exact ⟨v, rfl, h⟩
      · cases e2
  | _, _, _, 0, sl, .stay (v := v) (d := d) h r, e => by
    simp only [startE, List.getElem?_cons_zero, Option.some.injEq] at e
    subst e
    refine ⟨⟨v, rfl, fun o eo => ?_⟩, fun _ o p hh => hh.elim, fun w z => nomatch z⟩
    subst eo
    exact ⟨v, rfl, h⟩
  | _, _, _, i + 1, sl, .look h r, e => by
    simp only [startE, List.getElem?_cons_succ] at e
    simpa using startE_get (hk := hk) (H0 := H0) hx s r e
  | _, _, _, i + 1, sl, .stay h r, e => by
    simp only [startE, List.getElem?_cons_succ] at e
    simpa using startE_get (hk := hk) (H0 := H0) hx s r e
theorem rep_no {n i : Nat} {sl : Sl} (h : (List.replicate n Sl.no)[i]? = some sl) : sl = .no := by
  rw [List.getElem?_replicate] at h
  split at h
  · cases h; rfl
  · cases h
/-- a plain def's frame -/
theorem rel_start {Pr : Par} {G H : Hp} {pm : List Bool} {vs : List V} {ds : List D} {N : List Str} (s : Same G H) (r : RAL Pr G H pm vs ds) (hn : pm.length ≤ N.length) : Rel Pr ⟨H, none, none⟩ G H G H (L2.start N vs) (startE pm ds ++ List.replicate (N.length - pm.length) .no) := by
  have hl := r.len
  have e1 := startE_len (pm := pm) (ds := ds) hl.2.symm
  refine ⟨Same.refl _, Same.refl _, Same.refl _, s, fun _ _ => rfl, ?_, fun i sl e => ?_, fun i j sl t p ei ej hs ht => ?_⟩
  · rw [start_len (by omega), List.length_append, e1, List.length_replicate]
    omega
  · by_cases hi : i < (startE pm ds).length
    · rw [List.getElem?_append_left hi] at e
      obtain ⟨⟨v, ev, k⟩, _⟩ := startE_get (hk := H) (cx := ⟨H, none, none⟩) (H0 := H) rfl s r e
      exact k _ (start_get ev)
    · rw [List.getElem?_append_right (by omega)] at e
      rw [rep_no e]
      trivial
  · have no : ∀ {k : Nat} {u : Sl}, (startE pm ds ++ List.replicate (N.length - pm.length) Sl.no)[k]? = some u → ¬ held H u (L2.start N vs)[k]? p := fun {k u} ek hh => by
      by_cases hk : k < (startE pm ds).length
      · rw [List.getElem?_append_left hk] at ek
        exact (startE_get (hk := H) (cx := ⟨H, none, none⟩) (H0 := H) rfl s r ek).2.1 _ _ _ hh
      · rw [List.getElem?_append_right (by omega)] at ek
        rw [rep_no ek] at hh
        exact hh
    exact absurd hs (no ei)
theorem cok_def {N ps : List Str} {d : He.DefD} {f : Addr} {cdv : Value} {A : Around} {outer : List PySem.Env} {s : Shared} {H : Hp} {E : XK} {cx : Hand} (S : FnScope N ps d.scope) (hx : cx.ex = none) :
    CokS (cxOf (L2N.CX P w) P w K mg base N d.qual d.scope f cdv A outer s H E) ⟨N, d.scope, true, false, false⟩ cx (fun cls dd _ H => E cls dd H) where
  hotc := fun z => nomatch z
  N := rfl
  nd := S.nd
  sc := rfl
  kind := S.kind
  calm := fun _ => rfl
  st := fun x h => by
    have h : (locB d.scope x || (!false && celB d.scope x)) = true := h
    simp only [Bool.not_false, Bool.true_and, Bool.or_eq_true] at h
    rcases h with h | h
    · unfold locB at h
      split at h
      · exact ⟨.inl (by assumption), .inl rfl⟩
      · cases h
    · unfold celB at h
      split at h
      · exact ⟨.inr (by assumption), .inl rfl⟩
      · cases h
  tk := L2N.takes_of (E₁ := fun e' s'' => L2N.CX P w outer H s E e' s'') rfl rfl rfl rfl
  cold := fun _ => hx
  hand := fun a cls dd e => by rw [hx] at e; cases e
  fr := ⟨rfl, rfl⟩
  po := fun _ => passes_of (K := fun e s'' => L2N.CX P w outer H s E e s'') (E₁ := fun e' s'' => L2N.CX P w outer H s E e' s'') rfl
/-- a global def, a method -/
theorem def_ok {n lv : Nat} {fi : FnI} {d : He.DefD} {fd : FuncData} (F : FunP K d fd) (hB : defB T n fi d = true) (hi : fi.fn.ini = none) (hpl : fi.fn.pm.length = fi.ps.length)
    (hK : ∀ (cdv : Value) (A : Around) (outer : List PySem.Env) (s : Shared) (H : Hp) (E : XK), Room lv (A.deeper (envOfC d.qual d.scope s.heap.objs.size (He.fAd K d.at_) cdv)) → Kf (cxOf (L2N.CX P w) P w K mg base fi.N d.qual d.scope (He.fAd K d.at_) cdv A outer s H E) T ca xa C) :
    FnOk P w K mg base (L2N.CX P w) (lv + 1) (He.fAd K d.at_) fd fi.ps (spF ⟨K, T, ca, xa⟩ (runFnx fi.fn C) fi.fn.pm fi.ps.length) := by
  simp only [defB] at hB
  obtain ⟨h1, h⟩ := ba hB
  obtain ⟨h2, h⟩ := ba h
  obtain ⟨h3, h⟩ := ba h
  obtain ⟨h4, h⟩ := ba h
  obtain ⟨h5, h6⟩ := ba h
  have S := scope_ok h2
  have h3 := of_decide_eq_true h3
  have hps : fi.ps.length ≤ fi.N.length := by
    have := congrArg List.length S.pre
    rw [List.length_take] at this
    omega
  refine F.ok S spF_len fun cdv A outer s H vs Q E hr hsp => ?_
  obtain ⟨_, G, ds, sg, ral, post⟩ := hsp
  have kf := hK cdv A outer s H E hr
  have ok := (sndS_all (T := T) (ca := ca) (xa := xa) (K := C) n).ss (G0 := G) (H0 := H) kf (cok_def (P := P) (w := w) (K := K) (mg := mg) (base := base) (f := He.fAd K d.at_) (cdv := cdv) (A := A) (outer := outer) (s := s) (H := H) (E := E) (cx := ⟨H, none, none⟩) S rfl) h5
  refine ⟨_, ok, G, _, rel_start sg ral (by omega), ?_⟩
  rw [← h3]
  have hl : ds.length = fi.fn.pm.length := ral.len.2
  simp only [runFnx, if_pos hl, hi] at post
  cases q : exss C fi.fn.body (startE fi.fn.pm ds ++ List.replicate (fi.fn.ns - fi.fn.pm.length) Sl.no) with
  | nx e => rw [q] at post; exact fun σ' H' G' r => post .non H' G' r.toStep .non
  | ret r => rw [q] at post; exact fun v H' G' st rv => post v H' G' st rv
  | ct e => rw [q] at post; exact False.elim post
  | err k fs e => rw [q] at post; exact fun cls dd σ' H' G' r er => post cls dd H' G' r.toStep er
  | bad => rw [q] at post; exact False.elim post
  | rtd o => rw [q] at post; exact fun v H' G' st k => post v H' G' st k
theorem cok_defH {N ps : List Str} {d : He.DefD} {f : Addr} {cdv : Value} {A : Around} {outer : List PySem.Env} {s : Shared} {H : Hp} {E : XK} {cx : Hand} {p : Addr × Obj} (S : FnScope N ps d.scope) (hx : cx.ex = none) (hp : L2H.Hot1 A p) :
    CokS (L2H.cxH (L2N.CX P w) P w K mg base N d.qual d.scope f cdv A outer s H E p) ⟨N, d.scope, false, true, false⟩ cx (fun cls dd _ H => E cls dd H) where
  hotc := fun _ _ => ⟨p, hp, List.mem_cons_self⟩
  N := rfl
  nd := S.nd
  sc := rfl
  kind := S.kind
  calm := fun z => nomatch z
  st := fun x h => by
    have h : (locB d.scope x || (!false && celB d.scope x)) = true := h
    simp only [Bool.not_false, Bool.true_and, Bool.or_eq_true] at h
    rcases h with h | h
    · unfold locB at h
      split at h
      · exact ⟨.inl (by assumption), .inl rfl⟩
      · cases h
    · unfold celB at h
      split at h
      · exact ⟨.inr (by assumption), .inl rfl⟩
      · cases h
  tk := L2N.takes_of (E₁ := fun e' s'' => L2N.CX P w outer H s E e' s'') rfl rfl rfl rfl
  cold := fun _ => hx
  hand := fun a cls dd e => by rw [hx] at e; cases e
  fr := ⟨rfl, rfl⟩
  po := fun z => nomatch z
/-- a global def, called within an except suite -/
theorem def_okH {n lv : Nat} {fi : FnI} {d : He.DefD} {fd : FuncData} (F : FunP K d fd) (hB : defB T n fi d = true) (hi : fi.fn.ini = none) (hpl : fi.fn.pm.length = fi.ps.length) (hh : fi.hot = true)
    (hK : ∀ (cdv : Value) (A : Around) (outer : List PySem.Env) (s : Shared) (H : Hp) (E : XK) (p : Addr × Obj), L2H.RoomH lv (A.deeper (envOfC d.qual d.scope s.heap.objs.size (He.fAd K d.at_) cdv)) → Kf (L2H.cxH (L2N.CX P w) P w K mg base fi.N d.qual d.scope (He.fAd K d.at_) cdv A outer s H E p) T ca xa C) :
    L2H.FnH P w K mg base (L2N.CX P w) (lv + 1) (He.fAd K d.at_) fd fi.ps (spF ⟨K, T, ca, xa⟩ (runFnx fi.fn C) fi.fn.pm fi.ps.length) := by
  simp only [defB] at hB
  obtain ⟨h1, h⟩ := ba hB
  obtain ⟨h2, h⟩ := ba h
  obtain ⟨h3, h⟩ := ba h
  obtain ⟨h4, h⟩ := ba h
  obtain ⟨h5, h6⟩ := ba h
  rw [hh] at h6
  have h6 : cSs T n ⟨fi.N, d.scope, false, true, false⟩ d.body fi.fn.body = true := by simpa using h6
  have S := scope_ok h2
  have h3 := of_decide_eq_true h3
  have hps : fi.ps.length ≤ fi.N.length := by
    have := congrArg List.length S.pre
    rw [List.length_take] at this
    omega
  obtain ⟨oc, od, dV, kV, doc, pm, an, cdv, ct, osl, rfl, lk, hcd, _, _⟩ := F.ex
  refine L2H.fn_ofH lk hcd S spF_len fun A outer s H vs Q E p hp hr hsp => ?_
  obtain ⟨_, G, ds, sg, ral, post⟩ := hsp
  have kf := hK cdv A outer s H E p hr
  have ok := (sndS_all (T := T) (ca := ca) (xa := xa) (K := C) n).ss (G0 := G) (H0 := H) kf (cok_defH (P := P) (w := w) (K := K) (mg := mg) (base := base) (f := He.fAd K d.at_) (cdv := cdv) (A := A) (outer := outer) (s := s) (H := H) (E := E) (cx := ⟨H, none, none⟩) S rfl hp) h6
  refine ⟨_, ok, G, _, rel_start sg ral (by omega), ?_⟩
  rw [← h3]
  have hl : ds.length = fi.fn.pm.length := ral.len.2
  simp only [runFnx, if_pos hl, hi] at post
  cases q : exss C fi.fn.body (startE fi.fn.pm ds ++ List.replicate (fi.fn.ns - fi.fn.pm.length) Sl.no) with
  | nx e => rw [q] at post; exact fun σ' H' G' r => post .non H' G' r.toStep .non
  | ret r => rw [q] at post; exact fun v H' G' st rv => post v H' G' st rv
  | ct e => rw [q] at post; exact False.elim post
  | err k fs e => rw [q] at post; exact fun cls dd σ' H' G' r er => post cls dd H' G' r.toStep er
  | bad => rw [q] at post; exact False.elim post
  | rtd o => rw [q] at post; exact fun v H' G' st k => post v H' G' st k
/-- an __init__'s frame -/
theorem rel_startI {Pr : Par} {G H1 : Hp} {pm : List Bool} {vs : List V} {ds : List D} {N : List Str} {x dx : Addr} {c : Nat} {ci : ClI} (s : Same G H1) (r : RAL Pr G H1 pm vs ds) (hn : pm.length + 1 ≤ N.length) (hx : H1 x = none) (hdx : H1 dx = none) (hne : dx ≠ x) (hc : Pr.T.cls[c]? = some ci) :
    Rel Pr ⟨H1, none, some (c, x)⟩ G H1 G (upd (upd H1 dx (.own x)) x (.ins (Pr.ca c) dx [])) (L2.start N (.ref x :: vs)) (.obj c [] :: startE pm ds ++ List.replicate (N.length - pm.length - 1) .no) := by
  have hl := r.len
  have e1 := startE_len (pm := pm) (ds := ds) hl.2.symm
  have sH : Same H1 (upd (upd H1 dx (.own x)) x (.ins (Pr.ca c) dx [])) := fun a o e => by
    rw [upd_ne (ne_of_none e hx), upd_ne (ne_of_none e hdx)]
    exact e
  have old : ∀ {k : Nat} {u : Sl}, (Sl.obj c [] :: startE pm ds ++ List.replicate (N.length - pm.length - 1) Sl.no)[k + 1]? = some u → (startE pm ds)[k]? = some u ∨ u = .no := fun {k u} ek => by
    rw [List.cons_append, List.getElem?_cons_succ] at ek
    by_cases hk : k < (startE pm ds).length
    · rw [List.getElem?_append_left hk] at ek
      exact .inl ek
    · rw [List.getElem?_append_right (by omega)] at ek
      exact .inr (rep_no ek)
  refine ⟨Same.refl _, sH, Same.refl _, s.trans sH, fun _ _ => rfl, ?_, fun i sl e => ?_, fun i j sl t p ei ej hs ht => ?_⟩
  · rw [start_len (by rw [List.length_cons]; omega), List.length_append, List.length_cons, e1, List.length_replicate]
    omega
  · cases i with
    | zero =>
      have e : some (Sl.obj c []) = some sl := e
      cases e
      exact ⟨x, dx, [], [], ci, start_get rfl, upd_same, s.free hx, hx, hc, ⟨fun j n v _ h => by simp at h, fun m _ => rfl, Nat.zero_le _⟩, .nil, rfl⟩
    | succ k =>
      rcases old e with e | e
      · obtain ⟨⟨v, ev, q⟩, _⟩ := startE_get (hk := H1) (cx := ⟨H1, none, some (c, x)⟩) (H0 := H1) rfl s r e
        have q := q _ (start_get (N := N) (vs := .ref x :: vs) (i := k + 1) (by simpa using ev))
        cases sl with
        | val d => exact q
        | pk xs => exact q
        | no => trivial
        | own xs => exact absurd q.choose_spec.choose_spec.1 (fun z => ((startE_get (hk := H1) (cx := ⟨H1, none, some (c, x)⟩) (H0 := H1) rfl s r e).2.1 H1 _ q.choose) z)
        | dp w => exact absurd rfl ((startE_get (hk := H1) (cx := ⟨H1, none, some (c, x)⟩) (H0 := H1) rfl s r e).2.2 w)
        | exc k fs => obtain ⟨a, cls, dd, e2, _⟩ := q; cases e2
        | obj c' xs => exact absurd q.choose_spec.choose_spec.choose_spec.choose_spec.choose_spec.1 (fun z => ((startE_get (hk := H1) (cx := ⟨H1, none, some (c, x)⟩) (H0 := H1) rfl s r e).2.1 H1 _ q.choose) z)
      · subst e; trivial
  · have no : ∀ {k : Nat} {u : Sl}, (Sl.obj c [] :: startE pm ds ++ List.replicate (N.length - pm.length - 1) Sl.no)[k + 1]? = some u → ¬ held (upd (upd H1 dx (.own x)) x (.ins (Pr.ca c) dx [])) u (L2.start N (.ref x :: vs))[k + 1]? p := fun {k u} ek hh => by
      rcases old ek with e | e
      · exact (startE_get (hk := H1) (cx := ⟨H1, none, some (c, x)⟩) (H0 := H1) rfl s r e).2.1 _ _ _ hh
      · subst e; exact hh
    cases i with
    | succ k => exact absurd hs (no ei)
    | zero =>
      cases j with
      | zero => rfl
      | succ k => exact absurd ht (no ej)
theorem ini_ok {n lv c : Nat} {fi : FnI} {ci : ClI} {d : He.DefD} {fd : FuncData} (F : FunP K d fd) (hB : defB T n fi d = true) (hi : fi.fn.ini = some c) (hpl : fi.fn.pm.length + 1 = fi.ps.length) (hc : T.cls[c]? = some ci)
    (hK : ∀ (cdv : Value) (A : Around) (outer : List PySem.Env) (s : Shared) (H : Hp) (E : XK), Room lv (A.deeper (envOfC d.qual d.scope s.heap.objs.size (He.fAd K d.at_) cdv)) → Kf (cxOf (L2N.CX P w) P w K mg base fi.N d.qual d.scope (He.fAd K d.at_) cdv A outer s H E) T ca xa C) :
    FnOk P w K mg base (L2N.CX P w) (lv + 1) (He.fAd K d.at_) fd fi.ps (spI ⟨K, T, ca, xa⟩ c (runFn fi.fn C) fi.fn.pm fi.ps.length) := by
  simp only [defB] at hB
  obtain ⟨h1, h⟩ := ba hB
  obtain ⟨h2, h⟩ := ba h
  obtain ⟨h3, h⟩ := ba h
  obtain ⟨h4, h⟩ := ba h
  obtain ⟨h5, h6⟩ := ba h
  have S := scope_ok h2
  have h3 := of_decide_eq_true h3
  have hps : fi.ps.length ≤ fi.N.length := by
    have := congrArg List.length S.pre
    rw [List.length_take] at this
    omega
  refine F.ok S spI_len fun cdv A outer s H vs Q E hr hsp => ?_
  obtain ⟨_, G, H1, ds, x, dx, vs', sg, ral, hx, hdx, hne, rfl, rfl, post⟩ := hsp
  have kf := hK cdv A outer s (upd (upd H1 dx (.own x)) x (.ins (ca c) dx [])) E hr
  have ok := (sndS_all (T := T) (ca := ca) (xa := xa) (K := C) n).ss (G0 := G) (H0 := H1) kf (cok_def (P := P) (w := w) (K := K) (mg := mg) (base := base) (f := He.fAd K d.at_) (cdv := cdv) (A := A) (outer := outer) (s := s) (H := upd (upd H1 dx (.own x)) x (.ins (ca c) dx [])) (E := E) (cx := ⟨H1, none, some (c, x)⟩) S rfl) h5
  refine ⟨_, ok, G, _, rel_startI (Pr := ⟨K, T, ca, xa⟩) sg ral (by omega) hx hdx hne hc, ?_⟩
  rw [← h3]
  have hl : ds.length = fi.fn.pm.length := ral.len.2
  simp only [runFn, runFnx, if_pos hl, hi] at post
  cases q : exss C fi.fn.body (.obj c [] :: startE fi.fn.pm ds ++ List.replicate (fi.fn.ns - fi.fn.pm.length - 1) Sl.no) with
  | nx e =>
    rw [q] at post
    intro σ' H' G' r
    dsimp only at post
    split at post
    · rename_i c' xs eh
      have eh : e[0]? = some (.obj c' xs) := by rw [← eh, List.head?_eq_getElem?]
      obtain ⟨x2, dx2, fs, ws, ci', e1, k1, k2, k3, k4, k5, k6, k7⟩ := r.sl 0 _ eh
      cases k7
      rw [show (T.cls[c]? = some ci') from k4] at hc
      obtain rfl := Option.some.inj hc
      have sg2 : Same G' (upd G' x (.ins (ca c) dx2 fs)) := same_upd k2
      refine post (.ref x) H' (upd G' x (.ins (ca c) dx2 fs)) (r.toStep.still k3 k1 k2) ?_ rfl
      exact Rep.ins upd_same k4 k5 (k6.mono sg2)
    · exact False.elim post
  | ret r => rw [q] at post; exact False.elim post
  | ct e => rw [q] at post; exact False.elim post
  | err k fs e => rw [q] at post; exact fun cls dd σ' H' G' r er => post cls dd H' G' r.toStep er
  | bad => rw [q] at post; exact False.elim post
  | rtd o => rw [q] at post; exact False.elim post
end
end PL

set_option linter.all false
set_option Elab.async false
set_option maxRecDepth 100000
set_option maxHeartbeats 4000000
/-! From the head's facts to a law's answer. -/
namespace PL
open PySem PySem.Spec PyProof.Rows L2
/-- an own error class with an __init__ -/
def oexB (K : PySem.W.Frag) (C : Addr) : Bool := (match K.lookup C with
  | some ⟨.type "type", _, .cls cd, sl⟩ => (match cd.mro, sl.toList with
    | .ref C' :: bm, [_, _, _, _, some (.builtin n), _] => decide (C' = C) && (decide (n = "ValueError.__new__") && (!cd.hasDel && (cd.hasDict && PySem.HandSPX.refsVE bm)))
    | _, _ => false)
  | _ => false) && (decide (PySem.W.findIn K (.ref C) "__setattr__" = some (some (.builtin "object.__setattr__"))) && (decide (PySem.W.subIn K (.ref C) (.type "BaseException") = some true) && (decide (PySem.W.typeIn K (.ref C) = some (.type "type")) && PySem.W.keepIn K (.ref C))))
theorem oexB_ok {K : PySem.W.Frag} {C : Addr} (h : oexB K C = true) : OexC K C := by
  simp only [oexB] at h
  obtain ⟨h1, h⟩ := ba h
  obtain ⟨h2, h⟩ := ba h
  obtain ⟨h3, h⟩ := ba h
  obtain ⟨h4, h5⟩ := ba h
  refine ⟨?_, of_decide_eq_true h2, of_decide_eq_true h3, of_decide_eq_true h4, h5⟩
  split at h1
  · rename_i dd cd sl lk
    split at h1
    · rename_i C' bm k0 k1 k2 k3 n k5 hm hs
      obtain ⟨q1, q⟩ := ba h1
      obtain ⟨q2, q⟩ := ba q
      obtain ⟨q3, q⟩ := ba q
      obtain ⟨q4, q5⟩ := ba q
      have e1 := of_decide_eq_true q1
      have e2 := of_decide_eq_true q2
      subst e1 e2
      obtain ⟨nm, bs, mro, ns, qn, hd, sn, sub, ab, col, del⟩ := cd
      have e3 : del = false := by simpa using q3
      have e4 : hd = true := q4
      dsimp only at hm
      subst hm e3 e4
      have hsl : sl = #[k0, k1, k2, k3, some (.builtin "ValueError.__new__"), k5] := by
        obtain ⟨l⟩ := sl
        simp only at hs
        rw [hs]
      subst hsl
      exact ⟨nm, qn, ns, bs, bm, sn, sub, ab, col, dd, k0, k1, k2, k3, k5, lk, q5⟩
    · cases h1
  · cases h1
/-! ### what is asked of the written part -/
def caF (T : Tab) (K : PySem.W.Frag) (c : Nat) : Addr := match T.cls[c]? with
  | some ci => He.ga K ci.name
  | none => 0
def xaF (T : Tab) (K : PySem.W.Frag) (k : Nat) : Addr := match T.exs[k]? with
  | some xi => He.ga K xi.name
  | none => 0
def fnFa (T : Tab) (fi : FnI) : List He.Fa := match fi.at_ with
  | .glo => [.glo fi.name]
  | .meth c => (match T.cls[c]? with
    | some ci => [.meth ci.name fi.name]
    | none => [])
  | .ini c => (match T.cls[c]? with
    | some ci => [.mkr ci.name]
    | none => [])
def clFa (ci : ClI) : List He.Fa := .glo ci.name :: .cls ci.name :: ci.fields.map fun f => .noat ci.name f
def glFa (p : Str × Sum Int Str) : He.Fa := match p.2 with
  | .inl i => .int p.1 i
  | .inr z => .str p.1 z
def exFa (xi : ExI) : List He.Fa := .glo xi.name :: (if xi.fields.isEmpty then [.exc xi.name] else [.meth xi.name "__init__"]) ++ xi.fields.map fun f => .noat xi.name f
def emFa (T : Tab) (h : Nat) : List He.Fa := (List.range T.exs.length).filterMap fun k => match T.exs[h]?, T.exs[k]? with
  | some xh, some xk => some (.exm xk.name xh.name (PL.exm k h))
  | _, _ => none
def factsOf (T : Tab) : List He.Fa := T.fns.flatMap (fnFa T) ++ (T.cls.flatMap clFa ++ (T.glb.map glFa ++ (freeNames.map .free ++ (T.exs.flatMap exFa ++ (List.range T.exs.length).flatMap (emFa T)))))
def chkK (T : Tab) (K : PySem.W.Frag) : Bool := (factsOf T).all (fun f => f.ok K) && T.exs.all fun xi => (xfB K (He.ga K xi.name) && decide (PySem.W.kitCls K (.ref (He.ga K xi.name)) (.type "ValueError") = some true)) && (xi.fields.isEmpty || oexB K (He.ga K xi.name))
/-- a namespace without some names -/
def nsB (K : PySem.W.Frag) (a : Addr) (xs : List Str) : Bool := match K.lookup a with
  | some o => (match o.data with
    | .dict es _ => es.all (fun e => match e.key with | .str _ _ => true | _ => false) && xs.all fun x => (nsFind es x).isNone
    | _ => false)
  | none => false
theorem nsB_ok {K : PySem.W.Frag} {h : Heap} (KX : K.In h) {a : Addr} {xs : List Str} (c : nsB K a xs = true) : ∃ m, h.Ns a m ∧ ∀ x ∈ xs, m x = none := by
  unfold nsB at c
  split at c
  · rename_i o e
    split at c
    · rename_i es ep hd
      obtain ⟨c1, c2⟩ := ba c
      refine ⟨fun name => nsFind es name, ⟨o, es, ep, KX _ _ e, hd, fun z hz => ?_, fun _ => rfl⟩, fun x hx => ?_⟩
      · have hx := Array.all_eq_true_iff_forall_mem.mp c1 z hz
        cases hk : z.key <;> rw [hk] at hx <;> first | exact ⟨_, _, rfl⟩ | cases hx
      · exact Option.isNone_iff_eq_none.mp (List.all_eq_true.mp c2 x hx)
    · cases c
  · cases c
def mainB (K : PySem.W.Frag) : Bool := (He.Fa.glo "__builtins__").ok K && (match K.lookup (He.ga K "__builtins__") with
  | some ob => (match ob.cls with
    | .type t => decide (t = "module")
    | _ => false) && decide (ob.dict = some builtinsNs)
  | none => false)
theorem mainB_ok {K : PySem.W.Frag} {h : Heap} {mg : Str → Option Value} (KX : K.In h) (G : h.Ns mainGlobals mg) (c : mainB K = true) : ∃ mg bm ob, h.Ns mainGlobals mg ∧ mg "__builtins__" = some (.ref bm) ∧ h.get? bm = some ob ∧ ob.cls = .type "module" ∧ ob.dict = some builtinsNs := by
  unfold mainB at c
  obtain ⟨c1, c2⟩ := ba c
  split at c2
  · rename_i ob e
    obtain ⟨c3, c4⟩ := ba c2
    refine ⟨mg, _, ob, G, He.glo_ok KX G c1, KX _ _ e, ?_, of_decide_eq_true c4⟩
    split at c3
    · rename_i t ht
      rw [ht, of_decide_eq_true c3]
    · cases c3
  · cases c2
def seerB (K : PySem.W.Frag) : Bool := nsB K cStatics ["sys.audit-hooks", "sys.dict"] && (nsB K sysModules ["_pylong"] && mainB K)
/-! ### the Hook -/
abbrev AlP : Type := Bool × List He.FnW
def obsP (T : Tab) (ds : List He.DefD) (K : PySem.W.Frag) : AlP := ((chkK T K && seerB K) && ds.all fun d => d.ok K, ds.map fun d => He.fnW K d.at_)
def valP (ds : List He.DefD) : AlP := (true, ds.map He.DefD.val)
def SaysP (T : Tab) (ds : List He.DefD) (K : PySem.W.Frag) : Prop := obsP T ds K = valP ds
/-! what can be reached, level by level; what was seen is a number's bits -/
def addR {α : Type} : List Addr → Nat → List Addr → (Nat → List Addr → α) → α
  | [], v, acc, k => k v acc
  | b :: bs, v, acc, k => match Nat.beq (Nat.land (Nat.shiftRight v b) 1) 1 with
    | true => addR bs v acc k
    | false => HandSHeadRun.frNat (Nat.lor v (Nat.shiftLeft 1 b)) fun v' => HandSHeadRun.frNat b fun b' => addR bs v' (b' :: acc) k
def levR {α : Type} (g : Addr → Option Obj) : List Addr → Nat → List Addr → (Nat → List Addr → α) → α
  | [], v, nx, k => k v nx
  | a :: as, v, nx, k => match g a with
    | some o => addR (He.refsD o) v nx fun v nx => levR g as v nx k
    | none => levR g as v nx k
def bfsA (g : Addr → Option Obj) : Nat → List Addr → Nat → List Addr
  | 0, fr, _ => fr
  | n + 1, fr, v => fr ++ levR g fr v [] fun v nx => bfsA g n nx v
def obsPG (n : Nat) (T : Tab) (ds : List He.DefD) (g : Addr → Option Obj) : AlP := obsP T ds (He.frG g (cStatics :: sysModules :: bfsA g n [mainGlobals] (Nat.shiftLeft 1 mainGlobals)))
def hookP (n : Nat) (T : Tab) (ds : List He.DefD) : PySem.W.Hook where
  α := AlP
  obs := fun s => obsPG n T ds s.heap.get?
  val := fun _ => valP ds
  says := fun _ h => ∃ K : PySem.W.Frag, K.In h ∧ SaysP T ds K
  of := fun _ _ e => ⟨_, He.frG_in, e⟩
  keeps := fun _ _ _ ⟨K, hK, c⟩ k => ⟨K, PySem.W.Frag.In.keeps hK k, c⟩
theorem obsPG_eq {n : Nat} {T : Tab} {ds : List He.DefD} {g : Addr → Option Obj} {s : Shared} (h : ∀ a, g a = s.heap.get? a) : obsPG n T ds g = (hookP n T ds).obs s := by
  have e : g = s.heap.get? := funext h
  rw [e] <;> rfl
section
variable {T : Tab} {ds : List He.DefD} {K : PySem.W.Frag}
theorem SaysP.chk (c : SaysP T ds K) : chkK T K = true := (ba (ba (show ((chkK T K && seerB K) && ds.all fun d => d.ok K) = true from congrArg (fun z : AlP => z.1) c)).1).1
theorem SaysP.seer (c : SaysP T ds K) : seerB K = true := (ba (ba (show ((chkK T K && seerB K) && ds.all fun d => d.ok K) = true from congrArg (fun z : AlP => z.1) c)).1).2
theorem SaysP.def_ (c : SaysP T ds K) (i : Nat) {d : He.DefD} (h : ds[i]? = some d) : ∃ fd, FunP K d fd := by
  have c2 := (ba (show ((chkK T K && seerB K) && ds.all fun d => d.ok K) = true from congrArg (fun z : AlP => z.1) c)).2
  have e : ds.map (fun d => He.fnW K d.at_) = ds.map He.DefD.val := congrArg (fun z : AlP => z.2) c
  have e2 : (ds.map fun d => He.fnW K d.at_)[i]? = (ds.map He.DefD.val)[i]? := by rw [e]
  rw [List.getElem?_map, List.getElem?_map, h] at e2
  exact He.DefD.funD (Option.some.inj e2) (List.all_eq_true.mp c2 d (List.mem_of_getElem? h))
theorem chk_fact (c : chkK T K = true) {f : He.Fa} (h : f ∈ factsOf T) : f.ok K = true := List.all_eq_true.mp (ba c).1 f h
theorem fa_fn {i : Nat} {fi : FnI} {f : He.Fa} (h : T.fns[i]? = some fi) (hf : f ∈ fnFa T fi) : f ∈ factsOf T := List.mem_append_left _ (List.mem_flatMap.mpr ⟨fi, List.mem_of_getElem? h, hf⟩)
theorem fa_cl {i : Nat} {ci : ClI} {f : He.Fa} (h : T.cls[i]? = some ci) (hf : f ∈ clFa ci) : f ∈ factsOf T := List.mem_append_right _ (List.mem_append_left _ (List.mem_flatMap.mpr ⟨ci, List.mem_of_getElem? h, hf⟩))
theorem fa_gl {i : Nat} {p : Str × Sum Int Str} (h : T.glb[i]? = some p) : glFa p ∈ factsOf T := List.mem_append_right _ (List.mem_append_right _ (List.mem_append_left _ (List.mem_map.mpr ⟨p, List.mem_of_getElem? h, rfl⟩)))
theorem fa_fr {x : Str} (h : x ∈ freeNames) : He.Fa.free x ∈ factsOf T := List.mem_append_right _ (List.mem_append_right _ (List.mem_append_right _ (List.mem_append_left _ (List.mem_map.mpr ⟨x, h, rfl⟩))))
theorem fa_ex {i : Nat} {xi : ExI} {f : He.Fa} (h : T.exs[i]? = some xi) (hf : f ∈ exFa xi) : f ∈ factsOf T := List.mem_append_right _ (List.mem_append_right _ (List.mem_append_right _ (List.mem_append_right _ (List.mem_append_left _ (List.mem_flatMap.mpr ⟨xi, List.mem_of_getElem? h, hf⟩)))))
theorem fa_em {h k : Nat} {xh xk : ExI} (e1 : T.exs[h]? = some xh) (e2 : T.exs[k]? = some xk) : He.Fa.exm xk.name xh.name (PL.exm k h) ∈ factsOf T := by
  refine List.mem_append_right _ (List.mem_append_right _ (List.mem_append_right _ (List.mem_append_right _ (List.mem_append_right _ (List.mem_flatMap.mpr ⟨h, List.mem_range.mpr (List.getElem?_eq_some_iff.mp e1).1, ?_⟩)))))
  refine List.mem_filterMap.mpr ⟨k, List.mem_range.mpr (List.getElem?_eq_some_iff.mp e2).1, ?_⟩
  rw [e1, e2]
end
/-! ### the checked program -/
/-- the table fits the texts -/
def progB (T : Tab) (n : Nat) (ds : List He.DefD) : Bool :=
  decide (T.fns.length ≤ ds.length) && ((List.range T.fns.length).all (fun i => match T.fns[i]?, ds[i]? with
    | some fi, some d => defB T n fi d
    | _, _ => false) && (T.cls.all (fun ci => decide ci.fields.Nodup) && T.exs.all fun xi => xi.fields.isEmpty || (match ds[xi.ini]? with
    | some d => decide (d.at_ = (xi.name, some ("__init__" : Str))) && xselB xi d
    | none => false)))
section
variable {P : Program} {w : World} {K : PySem.W.Frag} {mg : Str → Option Value} {base : Heap} {T : Tab} {ds : List He.DefD} {F n : Nat}
abbrev tblOf (T : Tab) : List Fn := T.fns.map (·.fn)
abbrev PK (T : Tab) (K : PySem.W.Frag) : Par := ⟨K, T, caF T K, xaF T K⟩
/-- the promise of a def, at a depth -/
def prom (T : Tab) (K : PySem.W.Frag) (F k f : Nat) (fi : FnI) : Sp := match fi.at_ with
  | .ini c => spI (PK T K) c (sem (tblOf T) F k f) fi.fn.pm fi.ps.length
  | _ => spF (PK T K) (semx (tblOf T) F k f) fi.fn.pm fi.ps.length
def AllOk (P : Program) (w : World) (K : PySem.W.Frag) (mg : Str → Option Value) (base : Heap) (T : Tab) (ds : List He.DefD) (F k : Nat) : Prop :=
  ∀ (f : Nat) fi d fd, T.fns[f]? = some fi → ds[f]? = some d → FunP K d fd → FnOk P w K mg base (L2N.CX P w) (2 * k + 41) (He.fAd K d.at_) fd fi.ps (prom T K F k f fi) ∧ (fi.at_ = .glo → fi.hot = true → L2H.FnH P w K mg base (L2N.CX P w) (2 * k + 41) (He.fAd K d.at_) fd fi.ps (prom T K F k f fi))
theorem progB_fn (h : progB T n ds = true) {f : Nat} {fi : FnI} (e : T.fns[f]? = some fi) : ∃ d, ds[f]? = some d ∧ defB T n fi d = true := by
  obtain ⟨h1, h⟩ := ba h
  obtain ⟨h2, h⟩ := ba h
  have hl := (List.getElem?_eq_some_iff.mp e).1
  have q := List.all_eq_true.mp h2 f (List.mem_range.mpr hl)
  rw [e] at q
  split at q
  · rename_i d e1 e2
    cases e1
    exact ⟨d, e2, q⟩
  · cases q
theorem ca_at {c : Nat} {ci : ClI} (h : T.cls[c]? = some ci) : caF T K c = He.ga K ci.name := by unfold caF; rw [h]
theorem xa_at {k : Nat} {xi : ExI} (h : T.exs[k]? = some xi) : xaF T K k = He.ga K xi.name := by unfold xaF; rw [h]
theorem kf_of (hB : progB T n ds = true) (c : SaysP T ds K) (KB : K.In base) (GB : base.Ns mainGlobals mg) {k : Nat} (A : AllOk P w K mg base T ds F k) {X : Cx} (x1 : X.prog = P) (x2 : X.w = w) (x3 : X.K = K) (x4 : X.mg = mg) (x5 : X.base = base) (hr : X.calm = true → Room (2 * k + 42) X.A) (hrh : L2H.RoomH (2 * k + 42) X.A) (hw : WdX X) :
    Kf X T (caF T K) (xaF T K) ⟨semx (tblOf T) F k, F⟩ := by
  subst x1 x2 x3 x4 x5
  have ck := c.chk
  have glo : ∀ {x : Str}, He.Fa.glo x ∈ factsOf T → X.mg x = some (.ref (He.ga X.K x)) := fun h => He.glo_ok KB GB (chk_fact ck h)
  obtain ⟨b1, hb⟩ := ba hB
  obtain ⟨b2, hb⟩ := ba hb
  obtain ⟨b3, b4⟩ := ba hb
  have def_at : ∀ {f : Nat} {fi : FnI}, T.fns[f]? = some fi → ∃ d fd, ds[f]? = some d ∧ FunP X.K d fd ∧ defB T n fi d = true ∧ atB T fi d = true ∧ Binds X.K fd fi.ps [] := fun {f fi} e => by
    obtain ⟨d, e1, e2⟩ := progB_fn hB e
    obtain ⟨fd, FD⟩ := c.def_ f e1
    have q := e2
    simp only [defB] at q
    obtain ⟨q1, q⟩ := ba q
    obtain ⟨q2, q⟩ := ba q
    obtain ⟨q3, q⟩ := ba q
    obtain ⟨q4, q5⟩ := ba q
    exact ⟨d, fd, e1, FD, e2, q4, .all (plain_binds FD q1)⟩
  have clsf : ∀ (c : Nat) ci, T.cls[c]? = some ci → Cls X.K (caF T X.K c) ∧ (∀ n ∈ ci.fields, NoAttr X.K (caF T X.K c) n) ∧ ci.fields.Nodup := fun c ci e => by
    rw [ca_at e]
    exact ⟨He.cls_ok (chk_fact ck (fa_cl e (List.mem_cons_of_mem _ List.mem_cons_self))), fun n hn => He.noat_ok (chk_fact ck (fa_cl e (List.mem_cons_of_mem _ (List.mem_cons_of_mem _ (List.mem_map.mpr ⟨n, hn, rfl⟩))))), of_decide_eq_true (List.all_eq_true.mp b3 ci (List.mem_of_getElem? e))⟩
  refine ⟨hw, by have := hrh.un; omega, fun hca f fi e ha => ?_, fun f fi e ha hh => ?_, fun hca f fi cc e ha => ?_, fun hca f fi cc ci e ha ec => ?_, clsf, fun j nm v e => ?_, fun nm hn => He.free_ok KB GB (chk_fact ck (fa_fr hn)), fun k xi e => ?_, fun h xh e1 k xk e2 => ?_⟩
  · obtain ⟨d, fd, e1, FD, e2, e3, bd⟩ := def_at e
    simp only [atB, ha] at e3
    obtain ⟨k1, k2⟩ := ba e3
    obtain ⟨k2, k3⟩ := ba k2
    have at1 := of_decide_eq_true k1
    have fad : He.fAd X.K d.at_ = He.ga X.K fi.name := by rw [at1]; rfl
    have ok := (A f fi d fd e e1 FD).1
    have pe : prom T X.K F k f fi = spF (PK T X.K) (semx (tblOf T) F k f) fi.fn.pm fi.ps.length := by unfold prom; rw [ha]
    rw [pe] at ok
    refine ⟨2 * k + 41, _, fd, ok, (hr hca).mono (by omega), ?_, FD.kp, bd, of_decide_eq_true k3⟩
    rw [fad]
    exact glo (fa_fn e (by unfold fnFa; rw [ha]; exact List.mem_cons_self))
  · obtain ⟨d, fd, e1, FD, e2, e3, bd⟩ := def_at e
    simp only [atB, ha] at e3
    obtain ⟨k1, k2⟩ := ba e3
    obtain ⟨k2, k3⟩ := ba k2
    have at1 := of_decide_eq_true k1
    have fad : He.fAd X.K d.at_ = He.ga X.K fi.name := by rw [at1]; rfl
    have ok := (A f fi d fd e e1 FD).2 ha hh
    have pe : prom T X.K F k f fi = spF (PK T X.K) (semx (tblOf T) F k f) fi.fn.pm fi.ps.length := by unfold prom; rw [ha]
    rw [pe] at ok
    refine ⟨2 * k + 41, _, fd, ok, hrh.mono (by omega), ?_, FD.kp, bd, of_decide_eq_true k3⟩
    rw [fad]
    exact glo (fa_fn e (by unfold fnFa; rw [ha]; exact List.mem_cons_self))
  · obtain ⟨d, fd, e1, FD, e2, e3, bd⟩ := def_at e
    simp only [atB, ha] at e3
    split at e3
    · rename_i ci ec
      obtain ⟨k1, k2⟩ := ba e3
      obtain ⟨k2, k3⟩ := ba k2
      obtain ⟨k3, k4⟩ := ba k3
      obtain ⟨k4, k5⟩ := ba k4
      have at1 := of_decide_eq_true k1
      have fad : He.fAd X.K d.at_ = He.ma X.K (He.ga X.K ci.name) fi.name := by rw [at1]; rfl
      have ok := (A f fi d fd e e1 FD).1
      have pe : prom T X.K F k f fi = spF (PK T X.K) (semx (tblOf T) F k f) fi.fn.pm fi.ps.length := by unfold prom; rw [ha]
      rw [pe] at ok
      obtain ⟨pm, epm⟩ : ∃ pm, fi.fn.pm = false :: pm := by
        have := of_decide_eq_true k4
        cases q : fi.fn.pm with
        | nil => rw [q] at this; cases this
        | cons b r =>
          rw [q] at this
          have : some b = some false := this
          cases this
          exact ⟨r, rfl⟩
      have hl := of_decide_eq_true k3
      rw [epm] at ok hl
      refine ⟨pm, ci, 2 * k + 41, _, fd, epm, ec, of_decide_eq_true k5, (clsf cc ci ec).1, ?_, ok, (hr hca).mono (by omega), bd, by simpa using hl⟩
      rw [fad, ca_at ec]
      exact He.meth_ok (chk_fact ck (fa_fn e (by unfold fnFa; rw [ha]; dsimp only; rw [ec]; exact List.mem_cons_self)))
    · cases e3
  · obtain ⟨d, fd, e1, FD, e2, e3, bd⟩ := def_at e
    simp only [atB, ha, ec] at e3
    obtain ⟨k1, k2⟩ := ba e3
    obtain ⟨k2, k3⟩ := ba k2
    have at1 := of_decide_eq_true k1
    have fad : He.fAd X.K d.at_ = He.ma X.K (He.ga X.K ci.name) "__init__" := by rw [at1]; rfl
    have ok := (A f fi d fd e e1 FD).1
    have pe : prom T X.K F k f fi = spI (PK T X.K) cc (sem (tblOf T) F k f) fi.fn.pm fi.ps.length := by unfold prom; rw [ha]
    rw [pe] at ok
    refine ⟨2 * k + 41, _, fd, ?_, ?_, ok, hr hca, bd, of_decide_eq_true k3⟩
    · rw [fad, ca_at ec]
      exact He.mkr_ok (chk_fact ck (fa_fn e (by unfold fnFa; rw [ha]; dsimp only; rw [ec]; exact List.mem_cons_self)))
    · rw [ca_at ec]
      exact glo (fa_cl ec List.mem_cons_self)
  · have q := chk_fact ck (fa_gl e)
    cases v with
    | inl i => exact He.int_ok KB GB q
    | inr z => exact He.str_ok KB GB q
  · have xe := List.all_eq_true.mp (ba ck).2 xi (List.mem_of_getElem? e)
    obtain ⟨xe1, xe2⟩ := ba xe
    obtain ⟨xe1, xe3⟩ := ba xe1
    have g := glo (fa_ex e (List.mem_append_left _ List.mem_cons_self))
    have noat : ∀ f ∈ xi.fields, PySem.W.findIn X.K (.ref (He.ga X.K xi.name)) f = some none := fun f hf => He.noat_ok (chk_fact ck (fa_ex e (List.mem_append_right _ (List.mem_map.mpr ⟨f, hf, rfl⟩))))
    rw [xa_at e]
    refine ⟨g, fun ef => ?_, fun ef hca => ?_, xfB_ok xe1, noat, of_decide_eq_true xe3⟩
    · have q := He.exc_ok (chk_fact ck (fa_ex e (List.mem_append_left _ (List.mem_cons_of_mem _ (by rw [ef]; exact List.mem_cons_self)))))
      exact ⟨⟨xi, e, ef⟩, by rw [xa_at e]; exact q.1, by rw [xa_at e]; exact g, by rw [xa_at e]; exact q.2.1, by rw [xa_at e]; exact raises_own q.2.2.1 q.2.2.2⟩
    · have ne : xi.fields.isEmpty = false := by simpa using ef
      rw [ne, Bool.false_or] at xe2
      have ox := oexB_ok xe2
      have xs := List.all_eq_true.mp b4 xi (List.mem_of_getElem? e)
      rw [ne, Bool.false_or] at xs
      split at xs
      · rename_i d ed
        obtain ⟨s1, s2⟩ := ba xs
        have at1 := of_decide_eq_true s1
        obtain ⟨fd, FD⟩ := c.def_ _ ed
        have fad : He.fAd X.K d.at_ = He.ma X.K (He.ga X.K xi.name) "__init__" := by rw [at1]; rfl
        have ok := init_ok (P := X.prog) (w := X.w) (mg := X.mg) (base := X.base) FD ox noat ef s2
        have sl := s2
        simp only [xselB, Bool.and_eq_true, decide_eq_true_eq] at sl
        obtain ⟨t1, t2, t3, t4, t5, t6⟩ := sl
        have mt := He.meth_ok (chk_fact ck (fa_ex e (List.mem_append_left _ (List.mem_cons_of_mem _ (by rw [ne]; exact List.mem_cons_self)))))
        rw [← fad] at mt
        refine ⟨xi, 1, He.fAd X.K d.at_, fd, selfN :: xi.fields, e, t4, rfl, t5, by rw [xa_at e]; exact ox, by rw [xa_at e]; exact mt.at_, beq_iff_eq.mp mt.fn, by rw [xa_at e]; exact ok, (hr hca).mono (by omega), .all (plain_binds FD t1), by rw [xa_at e]; exact g, by simp⟩
      · cases xs
  · have q := He.exm_ok (chk_fact ck (fa_em e1 e2))
    rw [xa_at e1, xa_at e2]
    exact q
theorem sem_succ {f : Nat} {fi : FnI} (e : T.fns[f]? = some fi) (k : Nat) : sem (tblOf T) F (k + 1) f = runFn fi.fn ⟨semx (tblOf T) F k, F⟩ := by
  funext ds
  have : (tblOf T)[f]? = some fi.fn := by rw [List.getElem?_map, e]; rfl
  simp only [sem, semx, this]
  rfl
theorem semx_succ {f : Nat} {fi : FnI} (e : T.fns[f]? = some fi) (k : Nat) : semx (tblOf T) F (k + 1) f = runFnx fi.fn ⟨semx (tblOf T) F k, F⟩ := by
  funext ds
  have : (tblOf T)[f]? = some fi.fn := by rw [List.getElem?_map, e]; rfl
  simp only [semx, this]
/-- every def keeps its promise, at every depth -/
theorem all_ok (hB : progB T n ds = true) (c : SaysP T ds K) (KB : K.In base) (GB : base.Ns mainGlobals mg) (ht : P.given.tree = none) : ∀ k : Nat, AllOk P w K mg base T ds F k
  | 0 => fun f fi d fd e ed FD => by
    have pl : ∀ vs H Q E, prom T K F 0 f fi vs H Q E → vs.length = fi.ps.length := by
      unfold prom
      cases fi.at_ with
      | ini cc => exact spI_len
      | glo => exact spF_len
      | meth cc => exact spF_len
    have no : ∀ {vs H Q E}, prom T K F 0 f fi vs H Q E → False := fun {vs H Q E} hs => by
      unfold prom at hs
      cases q : fi.at_ with
      | ini cc => rw [q] at hs; obtain ⟨_, _, _, _, _, _, _, _, _, _, _, _, _, _, h⟩ := hs; exact h
      | glo => rw [q] at hs; obtain ⟨_, _, _, _, _, h⟩ := hs; exact h
      | meth cc => rw [q] at hs; obtain ⟨_, _, _, _, _, h⟩ := hs; exact h
    exact ⟨⟨pl, fun A outer s H args us vs Q E hr he hb hv hs => (no hs).elim⟩, fun _ _ => ⟨pl, fun A outer s H args us vs Q E p hr hot hpin he hb hv hs => (no hs).elim⟩⟩
  | k + 1 => fun f fi d fd e ed FD => by
    have A := all_ok hB c KB GB ht k
    obtain ⟨d', ed', dB⟩ := progB_fn hB e
    rw [ed] at ed'
    cases ed'
    have q := dB
    simp only [defB] at q
    obtain ⟨q1, q⟩ := ba q
    obtain ⟨q2, q⟩ := ba q
    obtain ⟨q3, q⟩ := ba q
    obtain ⟨q4, q5⟩ := ba q
    have hK : ∀ (cdv : Value) (A' : Around) (outer : List PySem.Env) (s : Shared) (H : Hp) (E : XK), Room (2 * k + 42) (A'.deeper (envOfC d.qual d.scope s.heap.objs.size (He.fAd K d.at_) cdv)) → Kf (cxOf (L2N.CX P w) P w K mg base fi.N d.qual d.scope (He.fAd K d.at_) cdv A' outer s H E) T (caF T K) (xaF T K) ⟨semx (tblOf T) F k, F⟩ := fun cdv A' outer s H E hr => kf_of hB c KB GB A rfl rfl rfl rfl rfl (fun _ => hr) (L2H.roomH_of hr) (by
      have S := scope_ok q2
      obtain ⟨s1, s2⟩ := ba c.seer
      obtain ⟨s2, s3⟩ := ba s2
      obtain ⟨mc, n1, n2⟩ := nsB_ok KB s1
      obtain ⟨mm, n3, n4⟩ := nsB_ok KB s2
      exact ⟨⟨mc, n1, n2 _ (by simp), n2 _ (by simp)⟩, ⟨mm, n3, n4 _ (by simp)⟩, mainB_ok KB GB s3, ht, ⟨_, outer, rfl, S.gen, S.co, rfl, rfl⟩, by have := hr.dp; show (A'.deeper _).depth + 100 < recursionLimit; omega⟩)
    have hKH : ∀ (cdv : Value) (A' : Around) (outer : List PySem.Env) (s : Shared) (H : Hp) (E : XK) (p : Addr × Obj), L2H.RoomH (2 * k + 42) (A'.deeper (envOfC d.qual d.scope s.heap.objs.size (He.fAd K d.at_) cdv)) → Kf (L2H.cxH (L2N.CX P w) P w K mg base fi.N d.qual d.scope (He.fAd K d.at_) cdv A' outer s H E p) T (caF T K) (xaF T K) ⟨semx (tblOf T) F k, F⟩ := fun cdv A' outer s H E p hr => kf_of hB c KB GB A rfl rfl rfl rfl rfl (fun z => nomatch z) hr (by
      have S := scope_ok q2
      obtain ⟨s1, s2⟩ := ba c.seer
      obtain ⟨s2, s3⟩ := ba s2
      obtain ⟨mc, n1, n2⟩ := nsB_ok KB s1
      obtain ⟨mm, n3, n4⟩ := nsB_ok KB s2
      exact ⟨⟨mc, n1, n2 _ (by simp), n2 _ (by simp)⟩, ⟨mm, n3, n4 _ (by simp)⟩, mainB_ok KB GB s3, ht, ⟨_, outer, rfl, S.gen, S.co, rfl, rfl⟩, by have := hr.dp; show (A'.deeper _).depth + 100 < recursionLimit; omega⟩)
    refine ⟨?_, fun ha hh => ?_⟩
    rotate_left
    · unfold prom
      unfold atB at q4
      rw [ha] at q4 ⊢
      obtain ⟨k1, k2⟩ := ba q4
      obtain ⟨k2, k3⟩ := ba k2
      dsimp only
      rw [semx_succ e]
      exact def_okH (ca := caF T K) (xa := xaF T K) FD dB (by simpa using k2) (of_decide_eq_true k3) hh hKH
    unfold prom
    unfold atB at q4
    cases ha : fi.at_ with
    | glo =>
      rw [ha] at q4
      obtain ⟨k1, k2⟩ := ba q4
      obtain ⟨k2, k3⟩ := ba k2
      dsimp only
      rw [semx_succ e]
      exact def_ok (ca := caF T K) (xa := xaF T K) FD dB (by simpa using k2) (of_decide_eq_true k3) hK
    | meth cc =>
      rw [ha] at q4
      dsimp only at q4
      split at q4
      · obtain ⟨k1, k2⟩ := ba q4
        obtain ⟨k2, k3⟩ := ba k2
        obtain ⟨k3, k4⟩ := ba k3
        dsimp only
        rw [semx_succ e]
        exact def_ok (ca := caF T K) (xa := xaF T K) FD dB (by simpa using k2) (of_decide_eq_true k3) hK
      · cases q4
    | ini cc =>
      rw [ha] at q4
      dsimp only at q4
      split at q4
      · rename_i ci ec
        obtain ⟨k1, k2⟩ := ba q4
        obtain ⟨k2, k3⟩ := ba k2
        dsimp only
        rw [sem_succ e]
        exact ini_ok (ca := caF T K) (xa := xaF T K) FD dB (of_decide_eq_true k2) (of_decide_eq_true k3) ec hK
      · cases q4
/-- the law's answer -/
theorem law_sp {lv f : Nat} {fi : FnI} (hg : fi.at_ = .glo) (hpm : fi.fn.pm = [true]) (hps : fi.ps.length = 1) {ns : List Int} (hs : sem (tblOf T) F lv f [.lst (ns.map D.int)] = .ok (.val (.bl true))) {H : Hp} {a : Addr} (hS : SqL K H a (ns.map V.int)) :
    prom T K F lv f fi [.ref a] H (fun v _ => v = .bl true) fun _ _ _ => False := by
  unfold prom
  rw [hg]
  dsimp only
  rw [hpm, hps]
  refine ⟨rfl, fun _ => none, [.lst (ns.map D.int)], fun _ _ e => (nomatch e), .look (.inr ⟨a, ns.map V.int, ns.map D.int, rfl, rfl, hS, Reps.ints ns⟩) .nil, post_fl ?_⟩
  show Post _ _ _ _ _ _ (sem (tblOf T) F lv f [.lst (ns.map D.int)]) _
  rw [hs]
  intro x H' G' st r
  cases (show Rep _ G' x (.bl true) from r) with
  | bl => rfl
end
/-- the end of a law -/
theorem walk_ofP {l : PySem.W.OpenLaw} {q : Program} {loose : List Str} {XP : (Str → Option Value) → Heap → Prop} {m n lv f F : Nat} {T : Tab} {ds : List He.DefD} {d : DefRec} {dl : He.DefD} {fi : FnI} {x : Str}
    (hn : l.most = some n) (hn2 : n ≤ sizeLine) (hdf : d.params.defaults = []) (hr : Room (2 * lv + 41) callerA) (hB : progB T m ds = true) (hf : T.fns[f]? = some fi) (hd : ds[f]? = some dl) (hg : fi.at_ = .glo) (hpm : fi.fn.pm = [true]) (hps : fi.ps = [x]) (hnm : fi.name = d.name) (htr : l.prog.given.tree = none)
    (law : ∀ ns : List Int, ns.length ≤ n → (∀ z ∈ ns, Builtin.Int.intBits z ≤ 1048576) → sem (tblOf T) F lv f [.lst (ns.map D.int)] = .ok (.val (.bl true))) :
    PySem.W.WalkO q loose XP (fun _ h => ∃ K : PySem.W.Frag, K.In h ∧ SaysP T ds K) l.row.toRowW d [] (fun f vs => PySem.call f vs) := by
  refine Att.attach_callB hn hdf fun w s₀ s₁ mg mb fa o pm cd doc a vs ns G Y ho hd' hcd hmg hobj hints hlen hbits hgs => ?_
  obtain ⟨K, KX, c⟩ := Y
  obtain ⟨d', ed', dB⟩ := progB_fn hB hf
  rw [hd] at ed'
  cases ed'
  obtain ⟨fd, FD⟩ := c.def_ f hd
  have q := dB
  simp only [defB] at q
  obtain ⟨q1, q⟩ := ba q
  obtain ⟨q2, q⟩ := ba q
  obtain ⟨q3, q⟩ := ba q
  obtain ⟨q4, q5⟩ := ba q
  unfold atB at q4
  rw [hg] at q4
  have at1 := of_decide_eq_true (ba q4).1
  have e1 := He.glo_ok KX G.T.g (chk_fact c.chk (fa_fn hf (by unfold fnFa; rw [hg]; exact List.mem_cons_self)))
  rw [hnm] at e1
  have ef : fa = He.fAd K dl.at_ := by
    have := hmg.symm.trans e1
    cases this
    rw [at1, ← hnm]
    rfl
  subst ef
  have bd := plain_binds FD q1
  rw [hps] at bd
  refine law_call (fd := fd) (sp := prom T K F lv f fi) (x := x) (CX := L2N.CX l.prog w) KX G.T.g G.T.b G.T.builtins G.T.nolimit hgs hobj hints (Nat.le_trans hlen hn2) hr (fun base KB GB => ?_) (fun s u => .of_eq (bd [u] rfl)) (fun H hO hS => law_sp hg hpm (by rw [hps]; rfl) (law ns hlen hbits) hS) fun H e s' h => ?_
  · have := (all_ok (P := l.prog) (w := w) (F := F) hB c KB GB htr lv f fi dl fd hf hd FD).1
    rw [hps] at this
    exact this
  · obtain ⟨_, _, _, _, _, _, _, _, _, _, _, _, h⟩ := h
    exact h
end PL

/-! ### the table (printed by gen.py) -/
namespace PL.K38
open PySem PySem.Spec PyProof.Rows L2
def top (i : Nat) : Stmt := PySem.Challenge.pw_dialhouse_k38_fitted_patterns.main.body.getD i (.Pass ⟨0, 0, 0, 0⟩)
def memb (st : Stmt) (j : Nat) : Stmt := match st with
  | .ClassDef _ _ _ b _ _ _ _ _ _ _ => b.getD j (.Pass ⟨0, 0, 0, 0⟩)
  | _ => .Pass ⟨0, 0, 0, 0⟩
/-- 0: ceil_div(a, b) -/
def f_ceil_div : Fn := ⟨[false, false], 2, none, [.ite [] (.cmp .lt (.s 1) (.e (.int 1))) [.rais 1 [.str "divisor below 1"]] [], .ret [] (.neg (.bin .fdiv (.e (.neg (.v 0))) (.s 1)))]⟩
/-- 1: check_pattern(pattern) -/
def f_check_pattern : Fn := ⟨[true], 2, none, [.ite [] (.not (.v (.s 0))) [.rais 3 [.str "no number in the pattern"]] [], .ite [] (.cmp .gt (.e (.b1 .len (.s 0))) (.e (.g 0 (.int (14))))) [.rais 2 [.g 0 (.int (14))]] [], .forl [] (.n 1) (.sq (.s 0)) [.ite [] (.not (.ch2 .le .le (.e (.int 0)) (.s 1) (.e (.g 1 (.int (1000000)))))) [.rais 1 [.str "number of a pattern"]] []]]⟩
/-- 2: check_fitted(uses) -/
def f_check_fitted : Fn := ⟨[true], 2, none, [.ite [] (.not (.v (.s 0))) [.rais 3 [.str "no use"]] [], .ite [] (.cmp .gt (.e (.b1 .len (.s 0))) (.e (.g 2 (.int (400))))) [.rais 2 [.g 2 (.int (400))]] [], .forl [] (.n 1) (.sq (.s 0)) [.ite [] (.not (.ch2 .le .le (.e (.int 0)) (.s 1) (.e (.g 1 (.int (1000000)))))) [.rais 1 [.str "use"]] []]]⟩
/-- 3: pattern_miss(uses, pattern) -/
def f_pattern_miss : Fn := ⟨[true, true], 3, none, [.ex [] (.call 2 [.p (.s 0)]), .ex [] (.call 1 [.p (.s 1)]), .ret [] (.b1 .max (.e (.comp (.n 2) (.r1 (.b1 .len (.s 0))) [] (.b1 .abs (.e (.bin .sub (.e (.ix (.s 0) (.s 2))) (.e (.ix (.s 1) (.e (.bin .mod (.s 2) (.e (.b1 .len (.s 1)))))))))) [2])))]⟩
/-- 4: extreme_days(uses, first, length) -/
def f_extreme_days : Fn := ⟨[true, false, false], 6, none, [.asg [] 3 (.v 1), .asg [] 4 (.v 1), .forl [] (.n 5) (.r3 (.v 1) (.b1 .len (.s 0)) (.v 2)) [.ite [] (.cmp .gt (.e (.ix (.s 0) (.s 5))) (.e (.ix (.s 0) (.s 3)))) [.asg [] 3 (.v 5)] [], .ite [] (.cmp .lt (.e (.ix (.s 0) (.s 5))) (.e (.ix (.s 0) (.s 4)))) [.asg [] 4 (.v 5)] []], .ret [] (.tup [.v 3, .v 4])]⟩
/-- 5: fit_pattern(uses, length) -/
def f_fit_pattern : Fn := ⟨[true, false], 8, none, [.ex [] (.call 2 [.p (.s 0)]), .ite [] (.not (.ch2 .le .le (.e (.int 1)) (.s 1) (.e (.g 0 (.int (14)))))) [.rais 1 [.str "length of the pattern"]] [], .asg [] 2 (.int 0), .asg [] 3 (.tup [.int 0, .int 0]), .asg [] 4 (.lst []), .forl [] (.n 5) (.r1 (.v 1)) [.ite [] (.cmp .lt (.s 5) (.e (.b1 .len (.s 0)))) [.asgt [] [6, 7] (.call 4 [.p (.s 0), .e (.v 5), .e (.v 1)]), .app [] 4 (.bin .fdiv (.e (.bin .add (.e (.ix (.s 0) (.s 6))) (.e (.ix (.s 0) (.s 7))))) (.e (.int 2))), .ite [] (.cmp .gt (.e (.call 0 [.e (.bin .sub (.e (.ix (.s 0) (.s 6))) (.e (.ix (.s 0) (.s 7)))), .e (.int 2)])) (.s 2)) [.asg [] 2 (.call 0 [.e (.bin .sub (.e (.ix (.s 0) (.s 6))) (.e (.ix (.s 0) (.s 7)))), .e (.int 2)]), .asg [] 3 (.tup [.v 6, .v 7])] []] [.app [] 4 (.int 0)]], .retd [] (.tup [.s 2, .s 4, .s 3])]⟩
/-- 6: law_cell(script, k) -/
def f_law_cell : Fn := ⟨[true, true], 2, none, [.ite [] (.cmp .lt (.s 1) (.e (.b1 .len (.s 0)))) [.ret [] (.ix (.s 0) (.s 1))] [], .ret [] (.int 0)]⟩
/-- 7: law_row(cell, many) -/
def f_law_row : Fn := ⟨[false, false], 5, none, [.asg [] 2 (.lst []), .ite [] (.cmp .ge (.s 0) (.e (.bin .pow (.e (.int 10)) (.e (.int 18))))) [.forl [] (.n 3) (.r1 (.v 1)) [.app [] 2 (.bin .mod (.e (.b1 .int (.s 0))) (.e (.int 1000000000))), .asg [] 0 (.bin .fdiv (.s 0) (.e (.int 1000000000)))], .reto 2] [], .forl [] (.n 3) (.r1 (.v 1)) [.asg [] 4 (.bin .mod (.e (.b1 .int (.e (.bin .add (.e (.bin .add (.e (.bin .mul (.s 0) (.e (.int 48271)))) (.e (.bin .mul (.s 3) (.e (.int 69621)))))) (.e (.int 4177)))))) (.e (.int 2147483647))), .app [] 2 (.bin .mod (.e (.b1 .int (.e (.bin .add (.e (.bin .add (.e (.bin .mul (.s 4) (.e (.int 16807)))) (.e (.bin .mul (.e (.bin .mul (.s 3) (.s 3))) (.e (.int 7919)))))) (.e (.int 271)))))) (.e (.int 2147483629)))], .reto 2]⟩
/-- 8: law_is_whole(value) -/
def f_law_is_whole : Fn := ⟨[true], 1, none, [.ret [] (.and (.isi (.s 0) .int) (.not (.isi (.s 0) .bool)))]⟩
/-- 9: law_use(cell, scale) -/
def f_law_use : Fn := ⟨[false, false], 2, none, [.ite [] (.cmp .eq (.e (.bin .mod (.s 0) (.e (.int 8)))) (.e (.int 1))) [.ret [] (.int 0)] [], .ite [] (.cmp .eq (.e (.bin .mod (.s 0) (.e (.int 8)))) (.e (.int 2))) [.ret [] (.int 1000000)] [], .ret [] (.bin .mod (.e (.bin .fdiv (.s 0) (.e (.int 8)))) (.s 1))]⟩
/-- 10: law_uses(row, at, many, length, scale) -/
def f_law_uses : Fn := ⟨[true, false, false, false, false], 9, none, [.asg [] 5 (.lst []), .forl [] (.n 6) (.r1 (.v 2)) [.asg [] 7 (.bin .add (.e (.ix (.s 0) (.e (.bin .add (.s 1) (.e (.bin .mod (.s 6) (.e (.int 24)))))))) (.e (.bin .mul (.e (.bin .fdiv (.s 6) (.e (.int 24)))) (.e (.bin .add (.e (.ix (.s 0) (.e (.bin .add (.s 1) (.e (.int 24)))))) (.e (.int 1))))))), .asg [] 8 (.call 9 [.e (.v 7), .e (.v 4)]), .ite [] (.and (.cmp .ge (.e (.bin .mod (.s 7) (.e (.int 8)))) (.e (.int 4))) (.cmp .ge (.s 6) (.s 3))) [.asg [] 8 (.b2 .min (.e (.int 1000000)) (.e (.bin .add (.e (.ix (.s 5) (.e (.bin .sub (.s 6) (.s 3))))) (.e (.bin .mod (.e (.bin .fdiv (.s 7) (.e (.int 8)))) (.e (.int 7)))))))] [], .app [] 5 (.v 8)], .reto 5]⟩
/-- 11: law_uses_wrong(uses) -/
def f_law_uses_wrong : Fn := ⟨[true], 2, none, [.ite [] (.not (.v (.s 0))) [.ret [] (.int 1)] [], .ite [] (.cmp .gt (.e (.b1 .len (.s 0))) (.e (.int 400))) [.ret [] (.int 2)] [], .forl [] (.n 1) (.sq (.s 0)) [.ite [] (.or (.cmp .lt (.s 1) (.e (.int 0))) (.cmp .gt (.s 1) (.e (.int 1000000)))) [.ret [] (.int 3)] []], .ret [] (.int 0)]⟩
/-- 12: law_pattern_wrong(pattern) -/
def f_law_pattern_wrong : Fn := ⟨[true], 2, none, [.ite [] (.not (.v (.s 0))) [.ret [] (.int 1)] [], .ite [] (.cmp .gt (.e (.b1 .len (.s 0))) (.e (.int 14))) [.ret [] (.int 4)] [], .forl [] (.n 1) (.sq (.s 0)) [.ite [] (.or (.cmp .lt (.s 1) (.e (.int 0))) (.cmp .gt (.s 1) (.e (.int 1000000)))) [.ret [] (.int 3)] []], .ret [] (.int 0)]⟩
/-- 13: law_limit(limit) -/
def f_law_limit : Fn := ⟨[true], 1, none, [.ite [] (.cmp .eq (.s 0) (.e (.int 400))) [.ret [] (.int 2)] [], .ret [] (.ix (.e (.lst [.int 6, .int 4])) (.e (.b1 .int (.e (.cmp .eq (.s 0) (.e (.int 14)))))))]⟩
/-- 14: law_missed(uses, pattern) -/
def f_law_missed : Fn := ⟨[true, true], 3, none, [.try [.ret [] (.tup [.int 0, .call 3 [.p (.s 0), .p (.s 1)]])] [(3, none, [.ret [] (.tup [.int 1, .int 0])]), (2, some 2, [.ret [] (.tup [.call 13 [.p (.e (.xf 2 2 0))], .int 0])]), (1, none, [.ret [] (.tup [.int 3, .int 0])]), (0, none, [.ret [] (.tup [.int 5, .int 0])])]]⟩
/-- 15: law_fit(uses, length) -/
def f_law_fit : Fn := ⟨[true, false], 3, none, [.try [.retd [] (.tup [.e (.int 0), .call 5 [.p (.s 0), .e (.v 1)]])] [(3, none, [.retd [] (.tup [.e (.int 1), .e (.int 0)])]), (2, some 2, [.retd [] (.tup [.e (.call 13 [.p (.e (.xf 2 2 0))]), .e (.int 0)])]), (1, none, [.retd [] (.tup [.e (.int 3), .e (.int 0)])]), (0, none, [.retd [] (.tup [.e (.int 5), .e (.int 0)])])]]⟩
/-- 16: law_miss(uses, pattern) -/
def f_law_miss : Fn := ⟨[true, true], 3, none, [.ret [] (.b1 .max (.e (.comp (.n 2) (.r1 (.b1 .len (.s 0))) [] (.b1 .abs (.e (.bin .sub (.e (.ix (.s 0) (.s 2))) (.e (.ix (.s 1) (.e (.bin .mod (.s 2) (.e (.b1 .len (.s 1)))))))))) [2])))]⟩
/-- 17: law_fits(told, uses, length) -/
def f_law_fits : Fn := ⟨[true, true, false], 8, none, [.ite [] (.or (.not (.v (.e (.isi (.s 0) .tup)))) (.or (.cmp .ne (.e (.b1 .len (.s 0))) (.e (.int 3))) (.not (.v (.e (.call 8 [.p (.e (.ix (.s 0) (.e (.int 0))))])))))) [.ret [] (.bl false)] [], .asg [] 3 (.ix (.s 0) (.e (.int 1))), .ite [] (.or (.not (.v (.e (.isi (.s 3) .lst)))) (.cmp .ne (.e (.b1 .len (.s 3))) (.s 2))) [.ret [] (.bl false)] [], .forl [] (.n 4) (.sq (.s 3)) [.ite [] (.or (.not (.v (.e (.call 8 [.p (.s 4)])))) (.not (.ch2 .le .le (.e (.int 0)) (.s 4) (.e (.int 1000000))))) [.ret [] (.bl false)] []], .asg [] 5 (.ix (.s 0) (.e (.int 2))), .ite [] (.or (.not (.v (.e (.isi (.s 5) .tup)))) (.or (.cmp .ne (.e (.b1 .len (.s 5))) (.e (.int 2))) (.or (.not (.v (.e (.call 8 [.p (.e (.ix (.s 5) (.e (.int 0))))])))) (.not (.v (.e (.call 8 [.p (.e (.ix (.s 5) (.e (.int 1))))]))))))) [.ret [] (.bl false)] [], .asg [] 6 (.ix (.s 5) (.e (.int 0))), .asg [] 7 (.ix (.s 5) (.e (.int 1))), .ite [] (.or (.not (.ch2 .le .lt (.e (.int 0)) (.s 6) (.e (.b1 .len (.s 1))))) (.or (.not (.ch2 .le .lt (.e (.int 0)) (.s 7) (.e (.b1 .len (.s 1))))) (.cmp .ne (.e (.bin .mod (.e (.b1 .int (.e (.bin .sub (.s 6) (.s 7))))) (.s 2))) (.e (.int 0))))) [.ret [] (.bl false)] [], .ret [] (.and (.cmp .eq (.e (.call 16 [.p (.s 1), .p (.s 3)])) (.e (.ix (.s 0) (.e (.int 0))))) (.cmp .eq (.e (.bin .fdiv (.e (.bin .add (.e (.b1 .abs (.e (.bin .sub (.e (.ix (.s 1) (.s 6))) (.e (.ix (.s 1) (.s 7))))))) (.e (.int 1)))) (.e (.int 2)))) (.e (.ix (.s 0) (.e (.int 0))))))]⟩
/-- 18: law_changed(row, at, numbers, many) -/
def f_law_changed : Fn := ⟨[true, false, false, false], 8, none, [.asg [] 4 (.bin .mod (.e (.ix (.s 0) (.s 1))) (.e (.b1 .len (.s 2)))), .asg [] 5 (.ix (.e (.lst [.neg (.int 1), .int 1000001, .bin .sub (.e (.neg (.int 1))) (.e (.ix (.s 0) (.e (.bin .add (.s 1) (.e (.int 1)))))), .bin .add (.e (.int 1000001)) (.e (.ix (.s 0) (.e (.bin .add (.s 1) (.e (.int 1))))))])) (.e (.bin .mod (.e (.ix (.s 0) (.e (.bin .add (.s 1) (.e (.int 2)))))) (.e (.int 4))))), .asg [] 6 (.bin .add (.e (.bin .add (.e (.sl (.s 2) none (some (.v 4)))) (.e (.lst [.v 5])))) (.e (.sl (.s 2) (some (.bin .add (.s 4) (.e (.int 1)))) none))), .asg [] 7 (.bin .mod (.e (.ix (.s 0) (.e (.bin .add (.s 1) (.e (.int 3)))))) (.e (.int 6))), .ite [] (.cmp .eq (.s 7) (.e (.int 0))) [.ret [] (.lst [])] [], .ite [] (.cmp .eq (.s 7) (.e (.int 1))) [.ret [] (.sl (.e (.bin .mul (.s 2) (.e (.bin .add (.e (.bin .fdiv (.s 3) (.e (.b1 .len (.s 2))))) (.e (.int 1)))))) none (some (.v 3)))] [], .ite [] (.cmp .eq (.s 7) (.e (.int 2))) [.ret [] (.sl (.e (.bin .mul (.s 6) (.e (.bin .add (.e (.bin .fdiv (.s 3) (.e (.b1 .len (.s 2))))) (.e (.int 1)))))) none (some (.v 3)))] [], .ite [] (.cmp .eq (.s 7) (.e (.int 3))) [.reto 6] [], .ret [] (.b1 .lst (.s 2))]⟩
/-- 19: law_refusals(row, at, uses, pattern, length) -/
def f_law_refusals : Fn := ⟨[true, false, false, false, false], 11, none, [.asg [] 5 (.call 18 [.p (.s 0), .e (.v 1), .e (.v 2), .e (.int 401)]), .asg [] 6 (.call 18 [.p (.s 0), .e (.bin .add (.s 1) (.e (.int 4))), .e (.v 3), .e (.int 15)]), .ite [] (.cmp .eq (.e (.bin .mod (.e (.ix (.s 0) (.e (.bin .add (.s 1) (.e (.int 8)))))) (.e (.int 4)))) (.e (.int 1))) [.asg [] 4 (.ix (.e (.lst [.int 0, .int 15, .neg (.ix (.s 0) (.e (.bin .add (.s 1) (.e (.int 9))))), .bin .add (.e (.int 15)) (.e (.ix (.s 0) (.e (.bin .add (.s 1) (.e (.int 9))))))])) (.e (.bin .mod (.e (.bin .fdiv (.e (.ix (.s 0) (.e (.bin .add (.s 1) (.e (.int 8)))))) (.e (.int 4)))) (.e (.int 4)))))] [], .asg [] 7 (.lst [.b1 .lst (.s 5), .b1 .lst (.s 6)]), .asg [] 8 (.call 11 [.p (.s 5)]), .asg [] 9 (.call 14 [.p (.s 5), .p (.s 6)]), .asg [] 10 (.call 15 [.p (.s 5), .e (.v 4)]), .ite [5, 6] (.cmp .ne (.s 7) (.e (.lst [.v 5, .v 6]))) [.ret [] (.bl false)] [], .ite [] (.and (.cmp .eq (.s 8) (.e (.int 0))) (.not (.ch2 .le .le (.e (.int 1)) (.s 4) (.e (.int 14))))) [.ret [] (.and (.cmp .eq (.s 10) (.e (.tup [.int 3, .int 0]))) (.cmp .eq (.e (.ix (.s 9) (.e (.int 0)))) (.e (.call 12 [.p (.s 6)]))))] [], .ite [] (.cmp .eq (.s 8) (.e (.int 0))) [.ret [] (.and (.cmp .eq (.e (.ix (.s 10) (.e (.int 0)))) (.e (.int 0))) (.and (.call 17 [.p (.e (.ix (.s 10) (.e (.int 1)))), .p (.s 5), .e (.v 4)]) (.cmp .eq (.e (.ix (.s 9) (.e (.int 0)))) (.e (.call 12 [.p (.s 6)])))))] [], .ret [] (.and (.cmp .eq (.s 10) (.e (.tup [.v 8, .int 0]))) (.cmp .eq (.s 9) (.e (.tup [.v 8, .int 0]))))]⟩
/-- 20: law(script) -/
def f_law : Fn := ⟨[true], 14, none, [.asg [] 1 (.call 7 [.e (.call 6 [.p (.s 0), .p (.e (.int 0))]), .e (.int 50)]), .asg [] 2 (.call 7 [.e (.call 6 [.p (.s 0), .p (.e (.int 1))]), .e (.int 12)]), .asg [] 3 (.bin .add (.e (.bin .mod (.e (.ix (.s 1) (.e (.int 0)))) (.e (.int 14)))) (.e (.int 1))), .asg [] 4 (.ix (.e (.lst [.int 12, .int 1003, .int 1000001])) (.e (.bin .mod (.e (.ix (.s 1) (.e (.int 1)))) (.e (.int 3))))), .asg [] 5 (.bin .add (.e (.bin .mod (.e (.ix (.s 1) (.e (.int 2)))) (.e (.int 24)))) (.e (.int 1))), .ite [] (.cmp .eq (.e (.bin .mod (.e (.bin .fdiv (.e (.ix (.s 1) (.e (.int 2)))) (.e (.int 24)))) (.e (.int 8)))) (.e (.int 3))) [.asg [] 5 (.int 400)] [], .asg [] 6 (.call 10 [.p (.s 1), .e (.int 3), .e (.v 5), .e (.v 3), .e (.v 4)]), .asg [] 7 (.comp (.n 8) (.r1 (.bin .add (.e (.bin .mod (.e (.ix (.s 1) (.e (.int 42)))) (.e (.int 14)))) (.e (.int 1)))) [] (.call 9 [.e (.ix (.s 1) (.e (.bin .add (.e (.int 28)) (.s 8)))), .e (.v 4)]) [8]), .asg [] 9 (.comp (.n 8) (.r1 (.v 3)) [] (.call 9 [.e (.ix (.s 1) (.e (.bin .add (.e (.int 28)) (.s 8)))), .e (.v 4)]) [8]), .asg [] 10 (.b1 .lst (.s 6)), .asgo [] 11 (.call 15 [.p (.s 10), .e (.v 3)]), .iteT [] [11] (.or (.cmp .ne (.e (.ix (.s 11) (.e (.int 0)))) (.e (.int 0))) (.or (.cmp .ne (.s 10) (.s 6)) (.not (.v (.e (.call 17 [.p (.e (.ix (.s 11) (.e (.int 1)))), .p (.s 6), .e (.v 3)])))))) [.ret [] (.bl false)] [], .asgT [] [11] 12 (.ix (.e (.ix (.s 11) (.e (.int 1)))) (.e (.int 0))), .appd [] [] 11 [.c 1, .c 1] (.int 0), .asg [] 13 (.call 14 [.p (.s 10), .p (.e (.b1 .lst (.s 7)))]), .ite [] (.or (.cmp .ne (.s 13) (.e (.tup [.int 0, .call 16 [.p (.s 6), .p (.s 7)]]))) (.not (.v (.e (.call 8 [.p (.e (.ix (.s 13) (.e (.int 1))))]))))) [.ret [] (.bl false)] [], .app [] 10 (.int 1000001), .asg [] 13 (.call 14 [.p (.e (.b1 .lst (.s 6))), .p (.e (.b1 .lst (.s 9)))]), .ite [] (.or (.cmp .ne (.s 13) (.e (.tup [.int 0, .call 16 [.p (.s 6), .p (.s 9)]]))) (.cmp .lt (.e (.ix (.s 13) (.e (.int 1)))) (.s 12))) [.ret [] (.bl false)] [], .ret [6, 7] (.and (.call 19 [.p (.s 2), .e (.int 0), .e (.v 6), .e (.v 7), .e (.v 3)]) (.call 17 [.p (.e (.call 5 [.p (.e (.b1 .lst (.s 6))), .e (.v 3)])), .p (.s 6), .e (.v 3)]))]⟩
def fns0 : List FnI := [
  ⟨"ceil_div", .glo, ["a", "b"], ["a", "b"], f_ceil_div, false⟩,
  ⟨"check_pattern", .glo, ["pattern"], ["pattern", "number"], f_check_pattern, false⟩,
  ⟨"check_fitted", .glo, ["uses"], ["uses", "use"], f_check_fitted, false⟩,
  ⟨"pattern_miss", .glo, ["uses", "pattern"], ["uses", "pattern", "day"], f_pattern_miss, false⟩,
  ⟨"extreme_days", .glo, ["uses", "first", "length"], ["uses", "first", "length", "high", "low", "day"], f_extreme_days, false⟩,
  ⟨"fit_pattern", .glo, ["uses", "length"], ["uses", "length", "miss", "days", "pattern", "first", "high", "low"], f_fit_pattern, false⟩,
  ⟨"_law_cell", .glo, ["script", "k"], ["script", "k"], f_law_cell, false⟩,
  ⟨"_law_row", .glo, ["cell", "many"], ["cell", "many", "row", "k", "mixed"], f_law_row, false⟩,
  ⟨"_law_is_whole", .glo, ["value"], ["value"], f_law_is_whole, false⟩,
  ⟨"_law_use", .glo, ["cell", "scale"], ["cell", "scale"], f_law_use, false⟩,
  ⟨"_law_uses", .glo, ["row", "at", "many", "length", "scale"], ["row", "at", "many", "length", "scale", "uses", "d", "cell", "use"], f_law_uses, false⟩,
  ⟨"_law_uses_wrong", .glo, ["uses"], ["uses", "use"], f_law_uses_wrong, false⟩,
  ⟨"_law_pattern_wrong", .glo, ["pattern"], ["pattern", "number"], f_law_pattern_wrong, false⟩,
  ⟨"_law_limit", .glo, ["limit"], ["limit"], f_law_limit, true⟩,
  ⟨"_law_missed", .glo, ["uses", "pattern"], ["uses", "pattern", "e"], f_law_missed, false⟩,
  ⟨"_law_fit", .glo, ["uses", "length"], ["uses", "length", "e"], f_law_fit, false⟩,
  ⟨"_law_miss", .glo, ["uses", "pattern"], ["uses", "pattern", "d"], f_law_miss, false⟩,
  ⟨"_law_fits", .glo, ["told", "uses", "length"], ["told", "uses", "length", "pattern", "number", "days", "x", "y"], f_law_fits, false⟩,
  ⟨"_law_changed", .glo, ["row", "at", "numbers", "many"], ["row", "at", "numbers", "many", "place", "bad", "spoilt", "pick"], f_law_changed, false⟩,
  ⟨"_law_refusals", .glo, ["row", "at", "uses", "pattern", "length"], ["row", "at", "uses", "pattern", "length", "others", "another", "kept", "due", "missed", "fit"], f_law_refusals, false⟩,
  ⟨"law", .glo, ["script"], ["script", "row", "more", "length", "scale", "many", "uses", "pattern", "k", "other", "given", "told", "least", "missed"], f_law, false⟩]
def T : Tab := ⟨fns0, [], [⟨"MeterError", [], 0⟩, ⟨"OutOfRange", [], 0⟩, ⟨"TooMany", ["limit"], 21⟩, ⟨"Empty", [], 0⟩], [("MOST_NUMBERS", .inl (14)), ("MOST_NUMBER", .inl (1000000)), ("MOST_FITTED", .inl (400))]⟩
def ds0 : List He.DefD := [
  ⟨("ceil_div", none), "ceil_div", "ceil_div", defArgs (top 6), defBody (top 6), defScope (top 6), [], []⟩,
  ⟨("check_pattern", none), "check_pattern", "check_pattern", defArgs (top 10), defBody (top 10), defScope (top 10), [], []⟩,
  ⟨("check_fitted", none), "check_fitted", "check_fitted", defArgs (top 13), defBody (top 13), defScope (top 13), [], []⟩,
  ⟨("pattern_miss", none), "pattern_miss", "pattern_miss", defArgs (top 14), defBody (top 14), defScope (top 14), [], []⟩,
  ⟨("extreme_days", none), "extreme_days", "extreme_days", defArgs (top 15), defBody (top 15), defScope (top 15), [], []⟩,
  ⟨("fit_pattern", none), "fit_pattern", "fit_pattern", defArgs (top 16), defBody (top 16), defScope (top 16), [], []⟩,
  ⟨("_law_cell", none), "_law_cell", "_law_cell", defArgs (top 18), defBody (top 18), defScope (top 18), [], []⟩,
  ⟨("_law_row", none), "_law_row", "_law_row", defArgs (top 19), defBody (top 19), defScope (top 19), [], []⟩,
  ⟨("_law_is_whole", none), "_law_is_whole", "_law_is_whole", defArgs (top 20), defBody (top 20), defScope (top 20), [], []⟩,
  ⟨("_law_use", none), "_law_use", "_law_use", defArgs (top 21), defBody (top 21), defScope (top 21), [], []⟩,
  ⟨("_law_uses", none), "_law_uses", "_law_uses", defArgs (top 22), defBody (top 22), defScope (top 22), [], []⟩,
  ⟨("_law_uses_wrong", none), "_law_uses_wrong", "_law_uses_wrong", defArgs (top 23), defBody (top 23), defScope (top 23), [], []⟩,
  ⟨("_law_pattern_wrong", none), "_law_pattern_wrong", "_law_pattern_wrong", defArgs (top 24), defBody (top 24), defScope (top 24), [], []⟩,
  ⟨("_law_limit", none), "_law_limit", "_law_limit", defArgs (top 25), defBody (top 25), defScope (top 25), [], []⟩,
  ⟨("_law_missed", none), "_law_missed", "_law_missed", defArgs (top 26), defBody (top 26), defScope (top 26), [], []⟩,
  ⟨("_law_fit", none), "_law_fit", "_law_fit", defArgs (top 27), defBody (top 27), defScope (top 27), [], []⟩,
  ⟨("_law_miss", none), "_law_miss", "_law_miss", defArgs (top 28), defBody (top 28), defScope (top 28), [], []⟩,
  ⟨("_law_fits", none), "_law_fits", "_law_fits", defArgs (top 29), defBody (top 29), defScope (top 29), [], []⟩,
  ⟨("_law_changed", none), "_law_changed", "_law_changed", defArgs (top 30), defBody (top 30), defScope (top 30), [], []⟩,
  ⟨("_law_refusals", none), "_law_refusals", "_law_refusals", defArgs (top 31), defBody (top 31), defScope (top 31), [], []⟩,
  ⟨("law", none), "law", "law", defArgs (top 32), defBody (top 32), defScope (top 32), [], []⟩,
  ⟨("TooMany", some "__init__"), "__init__", "TooMany.__init__", defArgs (memb (top 3) 0), defBody (memb (top 3) 0), defScope (memb (top 3) 0), [], []⟩]
def ds : List He.DefD := ds0
end PL.K38
namespace PL.K38
open PySem PySem.Spec PyProof.Rows L2
theorem fits : progB T 400 ds = true := by kernel_rfl
end PL.K38
namespace PL.K38
open PySem PySem.Spec PyProof.Rows L2
abbrev R : PySem.W.OpenRow := PySem.W.OpenLaw.row PySem.Challenge.rw_dialhouse_k38_fitted_patterns
abbrev hk : PySem.W.Hook := hookP 6 T ds
def ob (s : PySem.W.SharedT) : AlP := obsPG 6 T ds (HandSHeadRun.getT s)
theorem ob_eq (s : PySem.W.SharedT) : ob s = hk.obs s.abs := obsPG_eq (HandSHeadRun.getT_eq s)
def names0 : List Str := ["MeterError", "OutOfRange", "TooMany", "Empty", "ceil_div", "MOST_NUMBERS", "MOST_NUMBER", "check_pattern", "MOST_FITTED", "check_fitted", "pattern_miss", "extreme_days", "fit_pattern", "_law_cell", "_law_row", "_law_is_whole", "_law_use", "_law_uses", "_law_uses_wrong", "_law_pattern_wrong", "_law_limit", "_law_missed", "_law_fit", "_law_miss", "_law_fits", "_law_changed", "_law_refusals"]
def names : List Str := names0
theorem run (w : World) : HandSHeadRun.RunEq R (PySem.W.view R.prog [32]) hk ob 8000 names w := by
  intro os
  kernel_rfl
end PL.K38
set_option linter.all false
set_option Elab.async false
set_option maxRecDepth 100000
set_option maxHeartbeats 1000000
/-! What the laws' plain parts share: cells, rows. -/
namespace PL
open PySem (Str)
theorem Res.bind_eq_ok {α β : Type} {r : Res α} {f : α → Res β} {b : β} (a : α) (h1 : r = .ok a) (h2 : f a = .ok b) : r.bind f = .ok b := by rw [h1]; exact h2
/-- _law_cell -/
def cellFn : Fn := ⟨[true, true], 2, none, [.ite [] (.cmp .lt (.s 1) (.e (.b1 .len (.s 0)))) [.ret [] (.ix (.s 0) (.s 1))] [], .ret [] (.int 0)]⟩
theorem ixNat_nn {n : Nat} {i : Int} (h : 0 ≤ i) (h2 : i < n) : ixNat n i = some i.toNat := by
  unfold ixNat
  rw [if_pos h, if_pos h2]
theorem cell_ok (c : Ctx) (ns : List Int) (k : Int) (hk : 0 ≤ k) : runFn cellFn c [.lst (ns.map .int), .int k] = .ok (.val (.int (ns.getD k.toNat 0))) := by
  have e1 : (ns.map D.int).length = ns.length := List.length_map ..
  by_cases h : k < (ns.length : Int)
  · have h3 : k.toNat < ns.length := by omega
    simp [runFn, runFnx, cellFn, startE, exss, exs, frz, tv, po, peek, ev, b1, len, cmp, h, index, ixNat_nn hk, h3]
  · have h3 : ¬ k.toNat < ns.length := by omega
    simp [runFn, runFnx, cellFn, startE, exss, exs, frz, tv, po, peek, ev, b1, len, cmp, h, h3]
/-! ### operators, one by one -/
theorem bin_add (a b : Int) : bin .add (.int a) (.int b) = .ok (.val (.int (a + b))) := rfl
theorem bin_sub (a b : Int) : bin .sub (.int a) (.int b) = .ok (.val (.int (a - b))) := rfl
theorem bin_mod (a b : Int) (h : b ≠ 0) : bin .mod (.int a) (.int b) = .ok (.val (.int (a.fmod b))) := if_neg h
theorem bin_mul (a b : Int) (h : mulOk a b = true) : bin .mul (.int a) (.int b) = .ok (.val (.int (a * b))) := if_pos h
theorem bin_div (a b : Int) (h : divOk b = true) : bin .fdiv (.int a) (.int b) = .ok (.val (.int (a.fdiv b))) := if_pos h
theorem bin_pow (a b : Int) (h : powOk a b = true) : bin .pow (.int a) (.int b) = .ok (.val (.int (a ^ b.toNat))) := if_pos h
theorem mul_r {a b : Int} (h : -18446744073709551616 < b) (h2 : b < 18446744073709551616) : mulOk a b = true := by
  unfold mulOk big
  simp [h, h2]
theorem mul_l {a b : Int} (h : -18446744073709551616 < a) (h2 : a < 18446744073709551616) : mulOk a b = true := by
  unfold mulOk big
  simp [h, h2]
theorem div_ne {b : Int} (h : b ≠ 0) : divOk b = true := by
  unfold divOk
  exact decide_eq_true h
theorem div_s {b : Int} (h : 0 < b) (h2 : b < 18446744073709551616) : divOk b = true := div_ne (by omega)
theorem divM : divOk 1000000 = true := div_s (by omega) (by omega)
theorem mul_b {a b : Int} (h : a.natAbs.log2 + b.natAbs.log2 < 134000000) : mulOk a b = true := by
  unfold mulOk
  simp [h]
theorem ten18 : powOk 10 18 = true := by
  unfold powOk
  simp only [Bool.and_eq_true, decide_eq_true_eq]
  exact ⟨by omega, by omega, by omega⟩
theorem cmp_lt (a b : Int) : cmp .lt (.int a) (.int b) = .ok (decide (a < b)) := rfl
theorem cmp_le (a b : Int) : cmp .le (.int a) (.int b) = .ok (decide (a ≤ b)) := rfl
theorem cmp_gt (a b : Int) : cmp .gt (.int a) (.int b) = .ok (decide (b < a)) := rfl
theorem cmp_ge (a b : Int) : cmp .ge (.int a) (.int b) = .ok (decide (b ≤ a)) := rfl
theorem cmp_eq (a b : Int) : cmp .eq (.int a) (.int b) = .ok (a == b) := rfl
theorem cmp_ne (a b : Int) : cmp .ne (.int a) (.int b) = .ok (!(a == b)) := rfl
/-- _law_row -/
def rowA : List S := [.app [] 2 (.bin .mod (.e (.b1 .int (.s 0))) (.e (.int 1000000))), .asg [] 0 (.bin .fdiv (.s 0) (.e (.int 1000000)))]
def rowB1 : S := .asg [] 4 (.bin .mod (.e (.b1 .int (.e (.bin .add (.e (.bin .add (.e (.bin .mul (.s 0) (.e (.int 48271)))) (.e (.bin .mul (.s 3) (.e (.int 69621)))))) (.e (.int 4177)))))) (.e (.int 2147483647)))
def rowB2g (a b d m : Int) : S := .app [] 2 (.bin .mod (.e (.b1 .int (.e (.bin .add (.e (.bin .add (.e (.bin .mul (.s 4) (.e (.int a)))) (.e (.bin .mul (.e (.bin .mul (.s 3) (.s 3))) (.e (.int b)))))) (.e (.int d)))))) (.e (.int m)))
def rowB2 : S := rowB2g 16807 7919 271 2147483629
def rowB : List S := [rowB1, rowB2]
def rowFn : Fn := ⟨[false, false], 5, none, [.asg [] 2 (.lst []), .ite [] (.cmp .ge (.s 0) (.e (.bin .pow (.e (.int 10)) (.e (.int 18))))) [.forl [] (.n 3) (.r1 (.v 1)) rowA, .reto 2] [], .forl [] (.n 3) (.r1 (.v 1)) rowB, .reto 2]⟩
theorem b1_int (i : Int) : b1 .int (.int i) = .ok (.val (.int i)) := rfl
theorem rowA_step (c : Ctx) (cell many k : Int) (R : List Int) (s4 : Sl) (h : R.length < SL) :
    exss c rowA [.val (.int cell), .val (.int many), .own (R.map .int), .val (.int k), s4] = .nx [.val (.int (cell.fdiv 1000000)), .val (.int many), .own ((R ++ [cell.fmod 1000000]).map .int), .val (.int k), s4] := by
  have hl : (R.map D.int).length < SL := by rw [List.length_map]; exact h
  unfold rowA
  simp only [exss, exs, frz, List.foldl_nil, ev, po, pt, peek, peekT, List.getElem?_cons_zero, List.getElem?_cons_succ, Res.bind_ok, Vl.d_val, b1_int, bin_mod _ 1000000 (by omega), Res.to_ok, hl, if_true, List.set_cons_zero, List.set_cons_succ, Out.seq_nx, bin_div _ 1000000 divM, Vl.sl_val, List.map_append, List.map_cons, List.map_nil]
theorem rowB1_step (c : Ctx) (cell many k : Int) (s2 s4 : Sl) :
    exs c rowB1 [.val (.int cell), .val (.int many), s2, .val (.int k), s4] = .nx [.val (.int cell), .val (.int many), s2, .val (.int k), .val (.int ((cell * 48271 + k * 69621 + 4177).fmod 2147483647))] := by
  unfold rowB1
  simp only [exs, frz, List.foldl_nil, ev, po, pt, peek, peekT, List.getElem?_cons_zero, List.getElem?_cons_succ, Res.bind_ok, Vl.d_val, b1_int, bin_add, bin_mul cell 48271 (mul_r (by omega) (by omega)), bin_mul k 69621 (mul_r (by omega) (by omega)), bin_mod _ 2147483647 (by omega), Res.to_ok, Vl.sl_val, List.set_cons_zero, List.set_cons_succ]
theorem rowB2_step (c : Ctx) (cell many k a b d m : Int) (R : List Int) (x : Int) (h : R.length < SL) (h1 : ∀ z, mulOk z a = true) (h2 : ∀ z, mulOk z b = true) (h3 : mulOk k k = true) (h4 : m ≠ 0) :
    exs c (rowB2g a b d m) [.val (.int cell), .val (.int many), .own (R.map .int), .val (.int k), .val (.int x)] = .nx [.val (.int cell), .val (.int many), .own ((R ++ [(x * a + k * k * b + d).fmod m]).map .int), .val (.int k), .val (.int x)] := by
  have hl : (R.map D.int).length < SL := by rw [List.length_map]; exact h
  unfold rowB2g
  simp only [exs, frz, List.foldl_nil, ev, po, pt, peek, peekT, List.getElem?_cons_zero, List.getElem?_cons_succ, Res.bind_ok, Vl.d_val, b1_int, bin_add, bin_mul x a (h1 x), bin_mul k k h3, bin_mul _ b (h2 _), bin_mod _ m h4, Res.to_ok, Vl.sl_val, List.set_cons_zero, List.set_cons_succ, hl, if_true, List.map_append, List.map_cons, List.map_nil]
theorem rowB_step (c : Ctx) (cell many : Int) (k : Nat) (R : List Int) (s4 : Sl) (h : R.length < SL) (hk : k < 1000) :
    ∃ x y : Int, 0 ≤ y ∧ exss c rowB [.val (.int cell), .val (.int many), .own (R.map .int), .val (.int k), s4] = .nx [.val (.int cell), .val (.int many), .own ((R ++ [y]).map .int), .val (.int k), .val (.int x)] := by
  have e2 := fun x => rowB2_step c cell many k 16807 7919 271 2147483629 R x h (fun z => mul_r (by omega) (by omega)) (fun z => mul_r (by omega) (by omega)) (mul_r (by omega) (by omega)) (by omega)
  refine ⟨(cell * 48271 + k * 69621 + 4177).fmod 2147483647, (((cell * 48271 + k * 69621 + 4177).fmod 2147483647) * 16807 + (k : Int) * k * 7919 + 271).fmod 2147483629, Int.fmod_nonneg_of_pos _ (by omega), ?_⟩
  unfold rowB
  simp only [exss, rowB1_step, Out.seq_nx]
  unfold rowB2
  rw [e2]
  rfl
theorem rowA_loop (c : Ctx) (many : Int) (s4 : Sl) : ∀ (js : List Int) (cell : Int) (R : List Int) (s3 : Sl), R.length + js.length ≤ SL →
    ∃ (cell' : Int) (Q : List Int) (s3' : Sl), Q.length = js.length ∧ (∀ x ∈ Q, 0 ≤ x) ∧ forLoop (.n 3) (exss c rowA) (js.map .int) [.val (.int cell), .val (.int many), .own (R.map .int), s3, s4] = .nx [.val (.int cell'), .val (.int many), .own ((R ++ Q).map .int), s3', s4]
  | [], cell, R, s3, _ => ⟨cell, [], s3, rfl, fun x h => by simp at h, by simp [forLoop]⟩
  | j :: js, cell, R, s3, h => by
    rw [List.length_cons] at h
    obtain ⟨cell', Q, s3', h1, h2, h3⟩ := rowA_loop c many s4 js (cell.fdiv 1000000) (R ++ [cell.fmod 1000000]) (.val (.int j)) (by rw [List.length_append, List.length_singleton]; omega)
    refine ⟨cell', cell.fmod 1000000 :: Q, s3', by simp [h1], fun x hx => ?_, ?_⟩
    · rcases List.mem_cons.mp hx with e | e
      · subst e; exact Int.fmod_nonneg_of_pos _ (by decide)
      · exact h2 x e
    · have e : setT (.n 3) (D.int j) [.val (.int cell), .val (.int many), .own (R.map .int), s3, s4] = some [.val (.int cell), .val (.int many), .own (R.map .int), .val (.int j), s4] := rfl
      rw [List.map_cons]
      simp only [forLoop, e, rowA_step c cell many j R s4 (by omega)]
      rw [h3]
      simp
theorem rowB_loop (c : Ctx) (cell many : Int) : ∀ (js : List Nat) (R : List Int) (s3 s4 : Sl), R.length + js.length ≤ SL → (∀ j ∈ js, j < 1000) →
    ∃ (Q : List Int) (s3' s4' : Sl), Q.length = js.length ∧ (∀ x ∈ Q, 0 ≤ x) ∧ forLoop (.n 3) (exss c rowB) (js.map fun j => .int (j : Nat)) [.val (.int cell), .val (.int many), .own (R.map .int), s3, s4] = .nx [.val (.int cell), .val (.int many), .own ((R ++ Q).map .int), s3', s4']
  | [], R, s3, s4, _, _ => ⟨[], s3, s4, rfl, fun x h => by simp at h, by simp [forLoop]⟩
  | j :: js, R, s3, s4, h, hj => by
    rw [List.length_cons] at h
    obtain ⟨x, y, hy, st⟩ := rowB_step c cell many j R s4 (by omega) (hj j List.mem_cons_self)
    obtain ⟨Q, s3', s4', h1, h2, h3⟩ := rowB_loop c cell many js (R ++ [y]) (.val (.int j)) (.val (.int x)) (by rw [List.length_append, List.length_singleton]; omega) fun i hi => hj i (List.mem_cons_of_mem _ hi)
    refine ⟨y :: Q, s3', s4', by simp [h1], fun z hz => ?_, ?_⟩
    · rcases List.mem_cons.mp hz with e | e
      · subst e; exact hy
      · exact h2 z e
    · have e : setT (.n 3) (D.int j) [.val (.int cell), .val (.int many), .own (R.map .int), s3, s4] = some [.val (.int cell), .val (.int many), .own (R.map .int), .val (.int j), s4] := rfl
      rw [List.map_cons]
      simp only [forLoop, e, st]
      rw [h3]
      simp
theorem rangeD_nat (m : Nat) : rangeD 0 m = (List.range m).map fun j => D.int (j : Nat) := by
  unfold rangeD
  simp
theorem rangeD_int (m : Nat) : rangeD 0 m = ((List.range m).map fun j => ((j : Nat) : Int)).map D.int := by
  rw [rangeD_nat]
  simp
theorem run_ret {f : Fn} {c : Ctx} {ds : List D} {v : Vl} (hi : f.ini = none) (hl : ds.length = f.pm.length) (h : exss c f.body (startE f.pm ds ++ List.replicate (f.ns - f.pm.length) .no) = .ret v) : runFn f c ds = .ok v := by
  unfold runFn runFnx
  rw [if_pos hl, hi]
  simp only [h]
  try rfl
theorem run_err {f : Fn} {c : Ctx} {ds fs : List D} {k : Nat} {e : Env} (hi : f.ini = none) (hl : ds.length = f.pm.length) (h : exss c f.body (startE f.pm ds ++ List.replicate (f.ns - f.pm.length) .no) = .err k fs e) : runFn f c ds = .err k fs := by
  unfold runFn runFnx
  rw [if_pos hl, hi]
  simp only [h]
  try rfl
theorem run_nx {f : Fn} {c : Ctx} {ds : List D} {e : Env} (hi : f.ini = none) (hl : ds.length = f.pm.length) (h : exss c f.body (startE f.pm ds ++ List.replicate (f.ns - f.pm.length) .no) = .nx e) : runFn f c ds = .ok (.val .non) := by
  unfold runFn runFnx
  rw [if_pos hl, hi]
  simp only [h]
  try rfl
/-- the drawn row: so many whole numbers, none below 0 -/
theorem row_ok (c : Ctx) (cell : Int) (m : Nat) (hm : m < 1000) : ∃ R : List Int, R.length = m ∧ (∀ x ∈ R, 0 ≤ x) ∧ runFn rowFn c [.int cell, .int m] = .ok (.own (R.map .int)) := by
  have hr0 : inR (m : Int) = true := by unfold inR; simp; omega
  have hSL : SL = 16777216 := rfl
  have rA := fun cell => rowA_loop c m .no ((List.range m).map fun j => ((j : Nat) : Int)) cell [] .no (by simp; omega)
  have rB := rowB_loop c cell m (List.range m) [] .no .no (by simp; omega) (fun j hj => by have := List.mem_range.mp hj; omega)
  rw [← rangeD_nat] at rB
  rw [← rangeD_int] at rA
  have hlen : ((List.range m).map fun j => ((j : Nat) : Int)).length = m := by simp
  have hlen2 : (List.range m).length = m := by simp
  rw [hlen] at rA
  rw [hlen2] at rB
  obtain ⟨mi, hmi⟩ : ∃ mi : Int, mi = (m : Int) := ⟨_, rfl⟩
  rw [← hmi] at hr0 rA rB ⊢
  have hr := hr0
  clear hr0 hlen hlen2
  obtain ⟨big, hbig⟩ : ∃ big : Int, big = (10 : Int) ^ (18 : Int).toNat := ⟨_, rfl⟩
  have test : ∀ env : Env, env[0]? = some (.val (.int cell)) → tv c (.cmp .ge (.s 0) (.e (.bin .pow (.e (.int 10)) (.e (.int 18))))) env = .ok (decide (big ≤ cell)) := fun env e => by
    simp only [tv, po, peek, e, Res.bind_ok, ev, pt, Vl.d_val, bin_pow _ _ ten18, cmp, ← hbig]
  have fr : ∀ (b : List S) (o : Out), forLoop (.n 3) (exss c b) (rangeD 0 mi) [.val (.int cell), .val (.int mi), .own [], .no, .no] = o → exs c (.forl [] (.n 3) (.r1 (.v 1)) b) [.val (.int cell), .val (.int mi), .own [], .no, .no] = o := fun b o e => by
    simp only [exs, frz, List.foldl_nil, itsF, its, ev, getv, List.getElem?_cons_succ, List.getElem?_cons_zero, Res.bind_ok, asInt, hr, if_true, Res.to_ok, e]
  have a0 : exs c (.asg [] 2 (.lst [])) [.val (.int cell), .val (.int mi), .no, .no, .no] = .nx [.val (.int cell), .val (.int mi), .own [], .no, .no] := by
    simp [exs, frz, ev, evs]
  by_cases h : big ≤ cell
  · obtain ⟨cell', Q, s3', h1, h2, h3⟩ := rA cell
    refine ⟨Q, h1, h2, run_ret rfl rfl ?_⟩
    have h3 := fr _ _ h3
    have t := test [.val (.int cell), .val (.int mi), .own [], .no, .no] rfl
    rw [decide_eq_true h] at t
    show exss c _ [.val (.int cell), .val (.int mi), .no, .no, .no] = _
    have e2 : exs c (.ite [] (.cmp .ge (.s 0) (.e (.bin .pow (.e (.int 10)) (.e (.int 18))))) [.forl [] (.n 3) (.r1 (.v 1)) rowA, .reto 2] []) [.val (.int cell), .val (.int mi), .own [], .no, .no] = .ret (.own (Q.map .int)) := by
      rw [exs]
      simp only [frz, List.foldl_nil, t, Res.to_ok, if_true, exss, h3, Out.seq_nx]
      simp [exs]
    unfold rowFn
    simp only [exss, a0, Out.seq_nx, e2, Out.seq_ret]
  · obtain ⟨Q, s3', s4', h1, h2, h3⟩ := rB
    refine ⟨Q, h1, h2, run_ret rfl rfl ?_⟩
    have h3 := fr _ _ h3
    have t := test [.val (.int cell), .val (.int mi), .own [], .no, .no] rfl
    rw [decide_eq_false h] at t
    show exss c _ [.val (.int cell), .val (.int mi), .no, .no, .no] = _
    have e2 : exs c (.ite [] (.cmp .ge (.s 0) (.e (.bin .pow (.e (.int 10)) (.e (.int 18))))) [.forl [] (.n 3) (.r1 (.v 1)) rowA, .reto 2] []) [.val (.int cell), .val (.int mi), .own [], .no, .no] = .nx [.val (.int cell), .val (.int mi), .own [], .no, .no] := by
      rw [exs]
      simp only [frz, List.foldl_nil, t, Res.to_ok, Bool.false_eq_true, if_false, exss]
    unfold rowFn
    simp only [exss, a0, Out.seq_nx, e2, h3]
    simp [exs]
/-! ### items -/
theorem index_lst {xs : List D} {i : Int} {d : D} (h : (ixNat xs.length i).bind (xs[·]?) = some d) : index (.lst xs) (.int i) = .ok d := by
  simp only [index, h]
theorem index_tup {xs : List D} {i : Int} {d : D} (h : (ixNat xs.length i).bind (xs[·]?) = some d) : index (.tup xs) (.int i) = .ok d := by
  simp only [index, h]
theorem index_str {x : Str} {i : Int} {z : Nat} (hl : x.length ≤ SL) (h : (ixNat x.cps.toList.length i).bind (x.cps.toList[·]?) = some z) : index (.str x) (.int i) = .ok (.str ⟨#[z]⟩) := by
  simp only [index, hl, if_true, h]
theorem index_ints {R : List Int} {i : Int} (h : 0 ≤ i) (h2 : i < R.length) : index (.lst (R.map .int)) (.int i) = .ok (.int (R.getD i.toNat 0)) := by
  have hi : i.toNat < R.length := by omega
  refine index_lst ?_
  rw [List.length_map, ixNat_nn h h2]
  simp only [Option.bind_some, List.getElem?_map, List.getElem?_eq_getElem hi, Option.map_some]
  rw [List.getD_eq_getElem?_getD, List.getElem?_eq_getElem hi, Option.getD_some]
/-! ### comprehensions, texts -/
theorem comp_map (turn : D → Res (Option D)) (f : D → D) : ∀ (ds acc : List D), (∀ d ∈ ds, turn d = .ok (some (f d))) → acc.length + ds.length ≤ SL → compLoop turn ds acc = .ok (.own (acc ++ ds.map f))
  | [], acc, _, _ => by simp [compLoop]
  | d :: ds, acc, h, hl => by
    rw [List.length_cons] at hl
    have hz : acc.length < SL := by omega
    simp only [compLoop, h d List.mem_cons_self, hz, if_true]
    rw [comp_map turn f ds (acc ++ [f d]) (fun e he => h e (List.mem_cons_of_mem _ he)) (by rw [List.length_append, List.length_singleton]; omega)]
    simp
theorem comp_fm {α : Type} {turn : D → Res (Option D)} (g : α → D) (f : α → Option D) : ∀ (xs : List α) (acc : List D), (∀ x ∈ xs, turn (g x) = .ok (f x)) → acc.length + xs.length ≤ SL → compLoop turn (xs.map g) acc = .ok (.own (acc ++ xs.filterMap f))
  | [], acc, _, _ => by simp [compLoop]
  | x :: xs, acc, h, hl => by
    rw [List.length_cons] at hl
    have hz : acc.length < SL := by omega
    have e := h x List.mem_cons_self
    rw [List.map_cons]
    cases q : f x with
    | none =>
      rw [q] at e
      simp only [compLoop, e]
      rw [comp_fm g f xs acc (fun y hy => h y (List.mem_cons_of_mem _ hy)) (by omega), List.filterMap_cons, q]
    | some d =>
      rw [q] at e
      simp only [compLoop, e, hz, if_true]
      rw [comp_fm g f xs (acc ++ [d]) (fun y hy => h y (List.mem_cons_of_mem _ hy)) (by rw [List.length_append, List.length_singleton]; omega), List.filterMap_cons, q]
      simp
theorem strsOf_map : ∀ zs : List Str, strsOf (zs.map D.str) = some zs
  | [] => rfl
  | z :: zs => by simp [strsOf, strsOf_map zs]
theorem strOk_app {a b : Str} (h1 : PySem.PyData.strOk a = true) (h2 : PySem.PyData.strOk b = true) : PySem.PyData.strOk (a ++ b) = true := by
  unfold PySem.PyData.strOk at *
  show (a.cps ++ b.cps).all _ = true
  rw [Array.all_append, h1, h2]
  rfl
theorem strOk_join {x : Str} (hx : PySem.PyData.strOk x = true) : ∀ {zs : List Str}, (∀ z ∈ zs, PySem.PyData.strOk z = true) → PySem.PyData.strOk (PySem.Str.join x zs) = true
  | [], _ => by simp [PySem.Str.join, PySem.PyData.strOk, PySem.Str.empty]
  | [z], h => h z List.mem_cons_self
  | z :: y :: r, h => strOk_app (strOk_app (h z List.mem_cons_self) hx) (strOk_join hx fun w hw => h w (List.mem_cons_of_mem _ hw))
theorem ev_comp {c : Ctx} {tg : Tg} {it : It} {cs : List T} {el : E} {own : List Nat} {env : Env} {ds : List D} (h : its c it env = .ok ds) : ev c (.comp tg it cs el own) env = compLoop (turnD tg own env (tvs c cs) (ev c el)) ds [] := by
  rw [ev, h]
  rfl
theorem ev_join {c : Ctx} {x : Str} {e : E} {env : Env} {zs : List Str} (h : ev c e env = .ok (.own (zs.map .str))) (hl : (zs.map (·.length)).sum + zs.length * x.length ≤ SL) : ev c (.m1 .join (.str x) (.e e)) env = .ok (.val (.str (PySem.Txt.join x zs))) := by
  rw [ev]
  simp only [ev, po, h, Res.bind_ok, Vl.d_own, Vl.d_val, m1, strsOf_map, hl, if_true]
theorem sum_len1 : ∀ {zs : List Str}, (∀ z ∈ zs, z.length = 1) → (zs.map (·.length)).sum = zs.length
  | [], _ => rfl
  | z :: zs, h => by
    rw [List.map_cons, List.sum_cons, h z List.mem_cons_self, sum_len1 fun w hw => h w (List.mem_cons_of_mem _ hw), List.length_cons]
    omega
theorem strOk_empty : PySem.PyData.strOk ("" : Str) = true := by decide +kernel
theorem exs_ret {c : Ctx} {e : E} {env : Env} {v : Vl} (h : ev c e env = .ok v) : exs c (.ret [] e) env = .ret v := by
  simp only [exs, frz, List.foldl_nil, h, Res.to_ok]
theorem exs_asg {c : Ctx} {e : E} {env : Env} {v : Vl} {i : Nat} (h : ev c e env = .ok v) : exs c (.asg [] i e) env = .nx (env.set i v.sl) := by
  simp only [exs, frz, List.foldl_nil, h, Res.to_ok]
theorem exss_nx {c : Ctx} {s : S} {r : List S} {env env' : Env} (h : exs c s env = .nx env') : exss c (s :: r) env = exss c r env' := by
  simp only [exss, h, Out.seq_nx]
theorem exss_ret {c : Ctx} {s : S} {r : List S} {env : Env} {v : Vl} (h : exs c s env = .ret v) : exss c (s :: r) env = .ret v := by
  simp only [exss, h, Out.seq_ret]
theorem seq_id (o : Out) : (o.seq fun e => .nx e) = o := by cases o <;> rfl
theorem exss_one (c : Ctx) (s : S) (env : Env) : exss c [s] env = exs c s env := by
  simp only [exss]
  exact seq_id _
/-! ### loops -/
/-- a loop by an invariant over what is walked -/
theorem for_inv {tg : Tg} {body : Env → Out} {α : Type} (g : α → D) (I : List α → Env → Prop) (step : ∀ (done : List α) (a : α) (env : Env), I done env → ∃ e1, setT tg (g a) env = some e1 ∧ ∃ e2, body e1 = .nx e2 ∧ I (done ++ [a]) e2) :
    ∀ (todo done : List α) (env : Env), I done env → ∃ e2, forLoop tg body (todo.map g) env = .nx e2 ∧ I (done ++ todo) e2
  | [], done, env, h => ⟨env, rfl, by simpa using h⟩
  | a :: todo, done, env, h => by
    obtain ⟨e1, h1, e2, h2, h3⟩ := step done a env h
    obtain ⟨e3, h4, h5⟩ := for_inv g I step todo (done ++ [a]) e2 h3
    rw [List.map_cons]
    simp only [forLoop, h1, h2]
    exact ⟨e3, h4, by simpa using h5⟩
/-- the same, with the place of each -/
theorem for_at {tg : Tg} {body : Env → Out} {α : Type} (g : α → D) (xs : List α) (I : Nat → Env → Prop) (step : ∀ (i : Nat) (a : α) (env : Env), xs[i]? = some a → I i env → ∃ e1, setT tg (g a) env = some e1 ∧ ∃ e2, body e1 = .nx e2 ∧ I (i + 1) e2) {env : Env} (h : I 0 env) :
    ∃ e2, forLoop tg body (xs.map g) env = .nx e2 ∧ I xs.length e2 := by
  have go : ∀ (todo : List α) (i : Nat) (env : Env), xs.drop i = todo → I i env → ∃ e2, forLoop tg body (todo.map g) env = .nx e2 ∧ I (i + todo.length) e2 := by
    intro todo
    induction todo with
    | nil => exact fun i env _ h => ⟨env, rfl, h⟩
    | cons a todo ih =>
      intro i env hd h
      have hi : xs[i]? = some a := by
        have : (xs.drop i)[0]? = some a := by rw [hd]; rfl
        rw [List.getElem?_drop] at this
        simpa using this
      obtain ⟨e1, h1, e2, h2, h3⟩ := step i a env hi h
      have hd2 : xs.drop (i + 1) = todo := by
        have q : (xs.drop i).drop 1 = todo := by rw [hd]; rfl
        rw [List.drop_drop] at q
        exact q
      obtain ⟨e3, h4, h5⟩ := ih (i + 1) e2 hd2 h3
      rw [List.map_cons]
      simp only [forLoop, h1, h2]
      refine ⟨e3, h4, ?_⟩
      rw [List.length_cons]
      have : i + (todo.length + 1) = i + 1 + todo.length := by omega
      rw [this]
      exact h5
  obtain ⟨e2, h1, h2⟩ := go xs 0 env rfl h
  exact ⟨e2, h1, by simpa using h2⟩
/-! ### statement by statement: the goal is exss c (s :: r) env = out -/
section
variable {c : Ctx} {e : E} {t : T} {a b r : List S} {env env1 env' : Env} {v : Vl} {i : Nat} {out : Out} {fr : List Nat} {ds fs : List D} {k : Nat}
theorem st_asg (h : ev c e env = .ok v) (h2 : exss c r (env.set i v.sl) = out) : exss c (.asg [] i e :: r) env = out := by
  rw [exss_nx (exs_asg h)]; exact h2
theorem st_asgf (hf : frz fr env = env1) (h : ev c e env1 = .ok v) (h2 : exss c r (env1.set i v.sl) = out) : exss c (.asg fr i e :: r) env = out := by
  rw [exss_nx (env' := env1.set i v.sl) (by simp only [exs, hf, h, Res.to_ok])]; exact h2
theorem st_asgt {is : List Nat} (h : ev c e env = .ok v) (h1 : setT (.t is) v.d env = some env') (h2 : exss c r env' = out) : exss c (.asgt [] is e :: r) env = out := by
  rw [exss_nx (env' := env') (by simp only [exs, frz, List.foldl_nil, h, Res.to_ok, h1])]; exact h2
theorem st_ret (h : ev c e env = .ok v) : exss c (.ret [] e :: r) env = .ret v := exss_ret (exs_ret h)
theorem st_retf (hf : frz fr env = env1) (h : ev c e env1 = .ok v) : exss c (.ret fr e :: r) env = .ret v := exss_ret (by simp only [exs, hf, h, Res.to_ok])
theorem st_reto (h : env[i]? = some (.own ds)) : exss c (.reto i :: r) env = .ret (.own ds) := exss_ret (by simp only [exs, h])
theorem st_if {k : Bool} (h : tv c t env = .ok k) (h2 : (if k = true then exss c a env else exss c b env).seq (exss c r) = out) : exss c (.ite [] t a b :: r) env = out := by
  simp only [exss, exs, frz, List.foldl_nil, h, Res.to_ok]; exact h2
theorem st_no (h : tv c t env = .ok false) (h2 : exss c r env = out) : exss c (.ite [] t a [] :: r) env = out := by
  rw [exss_nx (env' := env) (by simp only [exs, frz, List.foldl_nil, h, Res.to_ok, Bool.false_eq_true, if_false, exss])]; exact h2
theorem st_nof (hf : frz fr env = env1) (h : tv c t env1 = .ok false) (h2 : exss c r env1 = out) : exss c (.ite fr t a [] :: r) env = out := by
  rw [exss_nx (env' := env1) (by simp only [exs, hf, h, Res.to_ok, Bool.false_eq_true, if_false, exss])]; exact h2
theorem st_noB (h : tv c t env = .ok false) (h1 : exss c b env = .nx env') (h2 : exss c r env' = out) : exss c (.ite [] t a b :: r) env = out := by
  rw [exss_nx (env' := env') (by simp only [exs, frz, List.foldl_nil, h, Res.to_ok, Bool.false_eq_true, if_false, h1])]; exact h2
theorem st_yes (h : tv c t env = .ok true) (h1 : exss c a env = .nx env') (h2 : exss c r env' = out) : exss c (.ite [] t a b :: r) env = out := by
  rw [exss_nx (env' := env') (by simp only [exs, frz, List.foldl_nil, h, Res.to_ok, if_true, h1])]; exact h2
theorem st_yesR (h : tv c t env = .ok true) (h1 : exss c a env = .ret v) : exss c (.ite [] t a b :: r) env = .ret v :=
  exss_ret (by simp only [exs, frz, List.foldl_nil, h, Res.to_ok, if_true, h1])
theorem st_yesE (h : tv c t env = .ok true) (h1 : exss c a env = .err k fs env') : exss c (.ite [] t a b :: r) env = .err k fs env' := by
  simp only [exss, exs, frz, List.foldl_nil, h, Res.to_ok, if_true, h1, Out.seq_err]
theorem st_rais {es : List E} (h : evs c es env = .ok ds) : exss c (.rais k es :: r) env = .err k ds env := by
  simp only [exss, exs, h, Res.to_ok, Out.seq_err]
theorem st_app (h0 : env[i]? = some (.own ds)) (hl : ds.length < SL) (h : ev c e env = .ok v) (h2 : exss c r (env.set i (.own (ds ++ [v.d]))) = out) : exss c (.app [] i e :: r) env = out := by
  rw [exss_nx (env' := env.set i (.own (ds ++ [v.d]))) (by simp only [exs, frz, List.foldl_nil, h0, h, Res.to_ok, hl, if_true])]; exact h2
theorem st_appf (hf : frz fr env = env1) (h0 : env1[i]? = some (.own ds)) (hl : ds.length < SL) (h : ev c e env1 = .ok v) (h2 : exss c r (env1.set i (.own (ds ++ [v.d]))) = out) : exss c (.app fr i e :: r) env = out := by
  rw [exss_nx (env' := env1.set i (.own (ds ++ [v.d]))) (by simp only [exs, hf, h0, h, Res.to_ok, hl, if_true])]; exact h2
theorem st_ex (h : ev c e env = .ok v) (h2 : exss c r env = out) : exss c (.ex [] e :: r) env = out := by
  rw [exss_nx (env' := env) (by simp only [exs, frz, List.foldl_nil, h, Res.to_ok])]; exact h2
theorem st_exE (h : ev c e env = .err k fs) : exss c (.ex [] e :: r) env = .err k fs env := by
  simp only [exss, exs, frz, List.foldl_nil, h, Res.to_err, Out.seq_err]
theorem st_for {tg : Tg} {it : It} (h : itsF c it env = .ok ds) (h1 : forLoop tg (exss c b) ds env = .nx env') (h2 : exss c r env' = out) : exss c (.forl [] tg it b :: r) env = out := by
  rw [exss_nx (env' := env') (by simp only [exs, frz, List.foldl_nil, h, Res.to_ok, h1])]; exact h2
theorem st_forR {tg : Tg} {it : It} (h : itsF c it env = .ok ds) (h1 : forLoop tg (exss c b) ds env = .ret v) : exss c (.forl [] tg it b :: r) env = .ret v :=
  exss_ret (by simp only [exs, frz, List.foldl_nil, h, Res.to_ok, h1])
theorem st_forE {tg : Tg} {it : It} (h : itsF c it env = .ok ds) (h1 : forLoop tg (exss c b) ds env = .err k fs env') : exss c (.forl [] tg it b :: r) env = .err k fs env' := by
  simp only [exss, exs, frz, List.foldl_nil, h, Res.to_ok, h1, Out.seq_err]
theorem st_forf {tg : Tg} {it : It} (hf : frz fr env = env1) (h : itsF c it env1 = .ok ds) (h1 : forLoop tg (exss c b) ds env1 = .nx env') (h2 : exss c r env' = out) : exss c (.forl fr tg it b :: r) env = out := by
  rw [exss_nx (env' := env') (by simp only [exs, hf, h, Res.to_ok, h1])]; exact h2
theorem st_tryN {hs : List (Nat × Option Nat × List S)} (h : exss c b env = .nx env') (h2 : exss c r env' = out) : exss c (.try b hs :: r) env = out := by
  rw [exss_nx (env' := env') (by simp only [exs, h])]; exact h2
theorem st_tryR {hs : List (Nat × Option Nat × List S)} (h : exss c b env = .ret v) : exss c (.try b hs :: r) env = .ret v :=
  exss_ret (by simp only [exs, h])
theorem st_tryE {hs : List (Nat × Option Nat × List S)} (h : exss c b env = .err k fs env') (h1 : hds c hs k fs env' = .ret v) : exss c (.try b hs :: r) env = .ret v :=
  exss_ret (by simp only [exs, h, h1])
theorem st_tryC {hs : List (Nat × Option Nat × List S)} (h : exss c b env = .err k fs env1) (h1 : hds c hs k fs env1 = .nx env') (h2 : exss c r env' = out) : exss c (.try b hs :: r) env = out := by
  rw [exss_nx (env' := env') (by simp only [exs, h, h1])]; exact h2
theorem st_seti {ke : E} {z : Int} {j : Nat} (h0 : env[i]? = some (.own ds)) (h : ev c e env = .ok v) (h3 : ev c ke env = .ok (.val (.int z))) (h4 : ixNat ds.length z = some j) (h2 : exss c r (env.set i (.own (ds.set j v.d))) = out) : exss c (.seti [] i ke e :: r) env = out := by
  rw [exss_nx (env' := env.set i (.own (ds.set j v.d))) (by simp only [exs, frz, List.foldl_nil, h0, h, h3, h4, Res.to_ok])]; exact h2
theorem st_aug {x y : Int} (h0 : env[i]? = some (.val (.int x))) (h : ev c e env = .ok (.val (.int y))) (h2 : exss c r (env.set i (.val (.int (x + y)))) = out) : exss c (.aug i .add e :: r) env = out := by
  rw [exss_nx (env' := env.set i (.val (.int (x + y)))) (by simp only [exs, h0, h, Res.to_ok])]; exact h2
end
theorem inR_s {n : Int} (h : -4611686018427387904 ≤ n) (h2 : n < 4611686018427387904) : inR n = true := by
  unfold inR
  simp only [Bool.and_eq_true, decide_eq_true_eq]
  exact ⟨by omega, by omega⟩
/-- the days s, s+1, .. n of them -/
def daysFrom (s : Int) (n : Nat) : List Int := (List.range n).map fun (k : Nat) => s + (k : Int)
theorem daysFrom_add (s : Int) (m n : Nat) : daysFrom s (m + n) = daysFrom s m ++ daysFrom (s + m) n := by
  unfold daysFrom
  rw [List.range_add, List.map_append, List.map_map]
  congr 1
  refine List.map_congr_left fun k _ => ?_
  simp only [Function.comp_apply]
  omega
theorem daysFrom_mem {s k : Int} {n : Nat} (h : k ∈ daysFrom s n) : s ≤ k ∧ k < s + n := by
  unfold daysFrom at h
  obtain ⟨x, hx, rfl⟩ := List.mem_map.mp h
  have := List.mem_range.mp hx
  omega
theorem daysFrom_const {s : Int} {n : Nat} {f : Int → Int} {c : Int} (h : ∀ k, s ≤ k → k < s + n → f k = c) : (daysFrom s n).map f = List.replicate n c := by
  refine List.eq_replicate_iff.mpr ⟨by unfold daysFrom; simp, fun x hx => ?_⟩
  obtain ⟨k, hk, rfl⟩ := List.mem_map.mp hx
  have := daysFrom_mem hk
  exact h k this.1 this.2
theorem daysFrom_len (s : Int) (n : Nat) : (daysFrom s n).length = n := by
  unfold daysFrom
  simp
theorem daysFrom_get (s : Int) (n i : Nat) (h : i < n) : (daysFrom s n)[i]? = some (s + i) := by
  unfold daysFrom
  simp [h]
theorem rangeD_days (n : Int) : rangeD 0 n = (daysFrom 0 n.toNat).map D.int := by
  unfold rangeD daysFrom
  rw [List.map_map, Int.sub_zero]
  rfl
theorem rangeD_from (a b : Int) : rangeD a b = (daysFrom a (b - a).toNat).map D.int := by
  unfold rangeD daysFrom
  rw [List.map_map]
  rfl
theorem its_r1 {c : Ctx} {e : E} {env : Env} {n : Int} (h : ev c e env = .ok (.val (.int n))) (h1 : inR n = true) : its c (.r1 e) env = .ok ((daysFrom 0 n.toNat).map D.int) := by
  simp only [its, h, Res.bind_ok, asInt, h1, if_true, rangeD_days]
theorem itsF_r1 {c : Ctx} {e : E} {env : Env} {n : Int} (h : ev c e env = .ok (.val (.int n))) (h1 : inR n = true) : itsF c (.r1 e) env = .ok ((daysFrom 0 n.toNat).map D.int) := its_r1 h h1
theorem index_neg1 {xs : List D} {d : D} (h : xs.getLast? = some d) : index (.lst xs) (.int (-1)) = .ok d := by
  have hn : xs ≠ [] := by intro e; rw [e] at h; cases h
  have hp := List.length_pos_iff.mpr hn
  refine index_lst ?_
  unfold ixNat
  rw [if_neg (by omega), if_pos (by omega), Option.bind_some, show ((-1 : Int) + (xs.length : Int)).toNat = xs.length - 1 by omega, ← List.getLast?_eq_getElem?]
  exact h
theorem filterMap_if {α β : Type} (p : α → Bool) (f : α → β) : ∀ xs : List α, (xs.filterMap fun x => if p x = true then some (f x) else none) = (xs.filter p).map f
  | [] => rfl
  | x :: xs => by
    cases h : p x <;> simp [List.filterMap_cons, List.filter_cons, h, filterMap_if p f xs]
theorem filterMap_some' {α β : Type} (f : α → β) : ∀ xs : List α, (xs.filterMap fun x => some (f x)) = xs.map f
  | [] => rfl
  | x :: xs => by simp [List.filterMap_cons, filterMap_some' f xs]
theorem comp_mp {α : Type} {turn : D → Res (Option D)} (g : α → D) (f : α → D) (xs : List α) (acc : List D) (h : ∀ x ∈ xs, turn (g x) = .ok (some (f x))) (hl : acc.length + xs.length ≤ SL) : compLoop turn (xs.map g) acc = .ok (.own (acc ++ xs.map f)) := by
  rw [comp_fm g (fun x => some (f x)) xs acc h hl, filterMap_some']
/-- a loop that builds a list -/
theorem for_build {tg : Tg} {body : Env → Out} {α : Type} (g : α → D) (f : α → List D) (I : List D → Env → Prop) : ∀ (xs : List α) (acc : List D) (env : Env),
    (∀ a ∈ xs, ∀ acc env, acc.length + (f a).length ≤ SL → I acc env → ∃ e1, setT tg (g a) env = some e1 ∧ ∃ e2, (body e1 = .nx e2 ∨ body e1 = .ct e2) ∧ I (acc ++ f a) e2) →
    acc.length + (xs.flatMap f).length ≤ SL → I acc env → ∃ e2, forLoop tg body (xs.map g) env = .nx e2 ∧ I (acc ++ xs.flatMap f) e2
  | [], acc, env, _, _, h => ⟨env, rfl, by simpa using h⟩
  | a :: xs, acc, env, step, hl, h => by
    rw [List.flatMap_cons, List.length_append] at hl
    obtain ⟨e1, h1, e2, h2, h3⟩ := step a List.mem_cons_self acc env (by omega) h
    obtain ⟨e3, h4, h5⟩ := for_build g f I xs (acc ++ f a) e2 (fun b hb => step b (List.mem_cons_of_mem _ hb)) (by rw [List.length_append]; omega) h3
    refine ⟨e3, ?_, by rw [List.flatMap_cons, ← List.append_assoc]; exact h5⟩
    rw [List.map_cons]
    rcases h2 with h2 | h2
    · simp only [forLoop, h1, h2]
      exact h4
    · simp only [forLoop, h1, h2]
      exact h4
theorem flatMap_one {α β : Type} (f : α → β) : ∀ xs : List α, (xs.flatMap fun x => [f x]) = xs.map f
  | [] => rfl
  | x :: xs => by rw [List.flatMap_cons, flatMap_one f xs]; rfl
theorem for_map {tg : Tg} {body : Env → Out} {α : Type} (g : α → D) (f : α → D) (I : List D → Env → Prop) (xs : List α) (acc : List D) (env : Env)
    (step : ∀ a ∈ xs, ∀ acc env, acc.length < SL → I acc env → ∃ e1, setT tg (g a) env = some e1 ∧ ∃ e2, (body e1 = .nx e2 ∨ body e1 = .ct e2) ∧ I (acc ++ [f a]) e2)
    (hl : acc.length + xs.length ≤ SL) (h : I acc env) : ∃ e2, forLoop tg body (xs.map g) env = .nx e2 ∧ I (acc ++ xs.map f) e2 := by
  have := for_build g (fun x => [f x]) I xs acc env (fun a ha acc env hl => step a ha acc env (by rw [List.length_singleton] at hl; omega)) (by rw [flatMap_one, List.length_map]; exact hl) h
  rw [flatMap_one] at this
  exact this
/-- a loop that changes nothing that matters -/
theorem for_keep {tg : Tg} {body : Env → Out} {α : Type} (g : α → D) (I : Env → Prop) : ∀ (xs : List α) (env : Env),
    (∀ a ∈ xs, ∀ env, I env → ∃ e1, setT tg (g a) env = some e1 ∧ ∃ e2, (body e1 = .nx e2 ∨ body e1 = .ct e2) ∧ I e2) → I env → ∃ e2, forLoop tg body (xs.map g) env = .nx e2 ∧ I e2
  | [], env, _, h => ⟨env, rfl, h⟩
  | a :: xs, env, step, h => by
    obtain ⟨e1, h1, e2, h2, h3⟩ := step a List.mem_cons_self env h
    obtain ⟨e3, h4, h5⟩ := for_keep g I xs e2 (fun b hb => step b (List.mem_cons_of_mem _ hb)) h3
    refine ⟨e3, ?_, h5⟩
    rw [List.map_cons]
    rcases h2 with h2 | h2
    · simp only [forLoop, h1, h2]
      exact h4
    · simp only [forLoop, h1, h2]
      exact h4
theorem intsOf_map : ∀ xs : List Int, intsOf (xs.map D.int) = some xs
  | [] => rfl
  | x :: xs => by simp [intsOf, intsOf_map xs]
mutual
/-- == of a thing with itself -/
theorem eqD_refl : ∀ (n : Nat) (d : D), eqOk n d = true → eqD d d = true
  | _, .non, _ => rfl
  | _, .bl b, _ => by simp [eqD]
  | _, .int i, _ => by simp [eqD]
  | _, .str x, _ => by simp [eqD]
  | 0, .tup _, h => by simp [eqOk] at h
  | 0, .lst _, h => by simp [eqOk] at h
  | n + 1, .tup xs, h => by simp only [eqD]; exact eqDs_refl n xs (by simpa [eqOk] using h)
  | n + 1, .lst xs, h => by simp only [eqD]; exact eqDs_refl n xs (by simpa [eqOk] using h)
  | 0, .ins _ _, h => by simp [eqOk] at h
  | _ + 1, .ins _ _, h => by simp [eqOk] at h
theorem eqDs_refl : ∀ (n : Nat) (ds : List D), eqOks n ds = true → eqDs ds ds = true
  | _, [], _ => rfl
  | n, x :: xs, h => by
    simp only [eqOks, Bool.and_eq_true] at h
    simp only [eqDs, eqD_refl n x h.1, eqDs_refl n xs h.2, Bool.and_true]
end
theorem eqOks_map {α : Type} {n : Nat} {g : α → D} (h : ∀ x, eqOk n (g x) = true) : ∀ xs : List α, eqOks n (xs.map g) = true
  | [] => by simp [eqOks]
  | x :: xs => by simp [eqOks, h x, eqOks_map h xs]
theorem cmp_self {d : D} (h : eqOk 60 d = true) : cmp .eq d d = .ok true := by
  simp only [cmp, h, Bool.and_self, if_true, eqD_refl 60 d h]
theorem cmp_self_ne {d : D} (h : eqOk 60 d = true) : cmp .ne d d = .ok false := by
  simp only [cmp, h, Bool.and_self, if_true, eqD_refl 60 d h, Bool.not_true]
theorem frz_val {env : Env} {i : Nat} {d : D} (h : env[i]? = some (.val d)) : frz [i] env = env := by
  simp only [frz, List.foldl_cons, List.foldl_nil, frz1, h]
theorem frz_own {env : Env} {i : Nat} {ds : List D} (h : env[i]? = some (.own ds)) : frz [i] env = env.set i (.val (.lst ds)) := by
  simp only [frz, List.foldl_cons, List.foldl_nil, frz1, h]
theorem SLe : SL = 16777216 := rfl
theorem ev_mth {c : Ctx} {k f : Nat} {o : E} {es : List A} {env : Env} {fs ds : List D} {r : Res Vl} (h0 : ev c o env = .ok (.val (.ins k fs))) (h : args c es env = .ok ds) (h2 : c.call f (.ins k fs :: ds) = r) : ev c (.mth k f o es) env = r := by
  rw [ev, h0]
  simp only [Res.bind_ok, Vl.d_val, if_true, h]
  exact h2
theorem ev_mk {c : Ctx} {f : Nat} {es : List A} {env : Env} {ds : List D} {r : Res Vl} (h : args c es env = .ok ds) (h2 : c.call f ds = r) : ev c (.mk f es) env = r := by
  rw [ev, h]
  exact h2
theorem cutL_map {α : Type} (g : α → D) (xs : List α) (i j : Int) (hi : 0 ≤ i) (hj : 0 ≤ j) (h1 : i ≤ xs.length) (h2 : j ≤ xs.length) : cutL (xs.map g) (some i) (some j) = ((xs.drop i.toNat).take (j.toNat - i.toNat)).map g := by
  unfold cutL cutIx
  simp only [List.length_map]
  rw [if_neg (by omega), if_neg (by omega), Nat.min_eq_left (by omega), Nat.min_eq_left (by omega), List.map_take, List.map_drop]
theorem intsOf_fun {α : Type} (f : α → Int) : ∀ xs : List α, intsOf (xs.map fun x => D.int (f x)) = some (xs.map f)
  | [] => rfl
  | x :: xs => by simp [intsOf, intsOf_fun f xs]
/-! ### instances, calls -/
theorem run_ini {f : Fn} {c : Ctx} {ds xs : List D} {k k2 : Nat} {e : Env} (hi : f.ini = some k) (hl : ds.length = f.pm.length) (h : exss c f.body (.obj k [] :: startE f.pm ds ++ List.replicate (f.ns - f.pm.length - 1) .no) = .nx (.obj k2 xs :: e)) : runFn f c ds = .ok (.val (.ins k xs)) := by
  unfold runFn runFnx
  rw [if_pos hl, hi]
  simp only [h, List.head?_cons]
  try rfl
theorem run_inie {f : Fn} {c : Ctx} {ds xs : List D} {k z : Nat} {e : Env} (hi : f.ini = some k) (hl : ds.length = f.pm.length) (h : exss c f.body (.obj k [] :: startE f.pm ds ++ List.replicate (f.ns - f.pm.length - 1) .no) = .err z xs e) : runFn f c ds = .err z xs := by
  unfold runFn runFnx
  rw [if_pos hl, hi]
  simp only [h]
  try rfl
theorem st_setf {c : Ctx} {e : E} {env : Env} {v : Vl} {k j : Nat} {ds : List D} {r : List S} {out : Out} (h : ev c e (.obj k ds :: env) = .ok v) (hj : j = ds.length) (h2 : j < 100) (h3 : exss c r (.obj k (ds ++ [v.d]) :: env) = out) : exss c (.setf [] k j e :: r) (.obj k ds :: env) = out := by
  have e1 : exs c (.setf [] k j e) (.obj k ds :: env) = .nx (.obj k (ds ++ [v.d]) :: env) := by
    simp only [exs, frz, List.foldl_nil, h, Res.to_ok, List.head?_cons, List.set_cons_zero]
    exact if_pos ⟨trivial, hj, h2⟩
  rw [exss_nx e1]
  exact h3
theorem ev_call {c : Ctx} {f : Nat} {es : List A} {env : Env} {ds : List D} {r : Res Vl} (h : args c es env = .ok ds) (h2 : c.call f ds = r) : ev c (.call f es) env = r := by
  rw [ev, h]
  exact h2
theorem fmod_lt {a b : Int} (h : 0 < b) : 0 ≤ a.fmod b ∧ a.fmod b < b := ⟨Int.fmod_nonneg_of_pos a h, Int.fmod_lt_of_pos a h⟩
theorem b2_max (i j : Int) : b2 .max (.int i) (.int j) = .ok (.val (.int (max i j))) := by
  simp only [b2]
  by_cases h : j > i
  · rw [if_pos h, show max i j = j by omega]
  · rw [if_neg h, show max i j = i by omega]
theorem b2_min (i j : Int) : b2 .min (.int i) (.int j) = .ok (.val (.int (min i j))) := by
  simp only [b2]
  by_cases h : j < i
  · rw [if_pos h, show min i j = j by omega]
  · rw [if_neg h, show min i j = i by omega]
def wholeFn : Fn := ⟨[true], 1, none, [.ret [] (.and (.isi (.s 0) .int) (.not (.isi (.s 0) .bool)))]⟩
theorem whole_ok (c : Ctx) (i : Int) : runFn wholeFn c [.int i] = .ok (.val (.bl true)) := by
  refine run_ret rfl rfl ?_
  show exss c wholeFn.body [.val (.int i)] = _
  unfold wholeFn
  simp only [exss, exs, frz, List.foldl_nil, ev, po, peek, List.getElem?_cons_zero, Res.bind_ok, Vl.d_val, isTy, ofB, asBool, truthV, truth, Res.to_ok, if_true, Bool.not_false, Out.seq_ret]
  try rfl
/-- a pair -/
def prD (p : Int × Int) : D := .tup [.int p.1, .int p.2]
theorem pr_0 (p : Int × Int) : index (prD p) (.int 0) = .ok (.int p.1) := rfl
theorem pr_1 (p : Int × Int) : index (prD p) (.int 1) = .ok (.int p.2) := rfl
theorem pr_ok (n : Nat) (r : Int × Int) : eqOk (n + 1) (prD r) = true := by simp [prD, eqOk, eqOks]
theorem index_map {α : Type} (g : α → D) {xs : List α} {i : Int} {x : α} (h0 : 0 ≤ i) (h : xs[i.toNat]? = some x) : index (.lst (xs.map g)) (.int i) = .ok (g x) := by
  have hl := (List.getElem?_eq_some_iff.mp h).1
  refine index_lst ?_
  rw [List.length_map, ixNat_nn h0 (by omega)]
  simp only [Option.bind_some, List.getElem?_map, h, Option.map_some]
theorem index_mapT {α : Type} (g : α → D) {xs : List α} {i : Int} {x : α} (h0 : 0 ≤ i) (h : xs[i.toNat]? = some x) : index (.tup (xs.map g)) (.int i) = .ok (g x) := by
  have hl := (List.getElem?_eq_some_iff.mp h).1
  refine index_tup ?_
  rw [List.length_map, ixNat_nn h0 (by omega)]
  simp only [Option.bind_some, List.getElem?_map, h, Option.map_some]
theorem cutL_map' {α β : Type} (g : α → β) (xs : List α) (lo hi : Option Int) : cutL (xs.map g) lo hi = (cutL xs lo hi).map g := by
  unfold cutL
  rw [List.length_map, List.map_take, List.map_drop]
theorem cutL_mem {α : Type} {xs : List α} {lo hi : Option Int} {x : α} (h : x ∈ cutL xs lo hi) : x ∈ xs := List.mem_of_mem_drop (List.mem_of_mem_take h)
theorem cutL_to {α : Type} (xs : List α) (j : Int) (h0 : 0 ≤ j) (h : j ≤ xs.length) : cutL xs none (some j) = xs.take j.toNat := by
  unfold cutL cutIx
  simp only [List.drop_zero, Nat.sub_zero]
  rw [if_neg (by omega), Nat.min_eq_left (by omega)]
theorem cutL_from {α : Type} (xs : List α) (i : Int) (h0 : 0 ≤ i) (h : i ≤ xs.length) : cutL xs (some i) none = xs.drop i.toNat := by
  unfold cutL cutIx
  simp only
  rw [if_neg (by omega), Nat.min_eq_left (by omega), List.take_of_length_le (by rw [List.length_drop]; omega)]
theorem bin_lst {a b : List D} (h : a.length + b.length ≤ SL) : bin .add (.lst a) (.lst b) = .ok (.own (a ++ b)) := by
  simp only [bin]
  rw [if_pos h]
theorem zip_days (us ps : List Int) (h : us.length = ps.length) : (daysFrom 0 us.length).map (fun d => (us.getD d.toNat 0, ps.getD d.toNat 0)) = us.zip ps := by
  refine List.ext_getElem (by simp [daysFrom_len, h]) fun i h1 h2 => ?_
  have h1' : i < us.length := by simpa [daysFrom_len] using h1
  have h2' : i < ps.length := by omega
  simp [daysFrom, h1', h2']
theorem sort_len (xs : List Int) (le : Int → Int → Bool) : (xs.mergeSort le).length = xs.length := (List.mergeSort_perm xs le).length_eq
theorem sort_mem {xs : List Int} {le : Int → Int → Bool} {x : Int} (h : x ∈ xs.mergeSort le) : x ∈ xs := (List.mergeSort_perm xs le).mem_iff.mp h
/-- a loop that looks for the first -/
theorem for_find {tg : Tg} {body : Env → Out} {α : Type} (g : α → D) (p : α → Bool) (v : α → Vl) (I : Env → Prop) : ∀ (xs : List α) (env : Env),
    (∀ a ∈ xs, ∀ env, I env → ∃ e1, setT tg (g a) env = some e1 ∧ (p a = true → body e1 = .ret (v a)) ∧ (p a = false → ∃ e2, body e1 = .nx e2 ∧ I e2)) → I env →
    (∃ a, xs.find? p = some a ∧ forLoop tg body (xs.map g) env = .ret (v a)) ∨ (xs.find? p = none ∧ ∃ e2, forLoop tg body (xs.map g) env = .nx e2 ∧ I e2)
  | [], env, _, h => .inr ⟨rfl, env, rfl, h⟩
  | a :: xs, env, step, h => by
    obtain ⟨e1, h1, h2, h3⟩ := step a List.mem_cons_self env h
    rw [List.map_cons]
    cases q : p a with
    | true =>
      refine .inl ⟨a, by rw [List.find?_cons, q], ?_⟩
      simp only [forLoop, h1, h2 q]
    | false =>
      obtain ⟨e2, h4, h5⟩ := h3 q
      have r := for_find g p v I xs e2 (fun b hb => step b (List.mem_cons_of_mem _ hb)) h5
      rw [List.find?_cons, q]
      simp only [forLoop, h1, h4]
      exact r
theorem its_r2 {c : Ctx} {e f : E} {env : Env} {a b : Int} (h : ev c e env = .ok (.val (.int a))) (h' : ev c f env = .ok (.val (.int b))) (h1 : inR a = true) (h2 : inR b = true) : its c (.r2 e f) env = .ok ((daysFrom a (b - a).toNat).map D.int) := by
  simp only [its, h, h', Res.bind_ok, asInt, h1, h2, Bool.and_self, if_true, rangeD_from]
theorem itsF_r2 {c : Ctx} {e f : E} {env : Env} {a b : Int} (h : ev c e env = .ok (.val (.int a))) (h' : ev c f env = .ok (.val (.int b))) (h1 : inR a = true) (h2 : inR b = true) : itsF c (.r2 e f) env = .ok ((daysFrom a (b - a).toNat).map D.int) := its_r2 h h' h1 h2
end PL

set_option linter.all false
set_option Elab.async false
set_option maxRecDepth 100000
set_option maxHeartbeats 1000000
/-! The typed layer: plain functions on plain types, and the rules by which a def is shown to be one. Nothing is claimed where a plain function is bad. -/
namespace PL
open PySem (Str)
class Emb (α : Type) where
  d : α → D
abbrev toD {α : Type} [Emb α] (x : α) : D := Emb.d x
instance : Emb Int := ⟨.int⟩
instance : Emb Bool := ⟨.bl⟩
instance : Emb Str := ⟨.str⟩
instance : Emb Unit := ⟨fun _ => .non⟩
instance : Emb D := ⟨fun x => x⟩
def optD {α : Type} [Emb α] : Option α → D
  | none => .non
  | some x => Emb.d x
instance {α : Type} [Emb α] : Emb (Option α) := ⟨optD⟩
instance {α : Type} [Emb α] : Emb (List α) := ⟨fun xs => .lst (xs.map Emb.d)⟩
instance {α β : Type} [Emb α] [Emb β] : Emb (α × β) := ⟨fun p => .tup [Emb.d p.1, Emb.d p.2]⟩
structure T1 (α : Type) where
  a : α
  deriving DecidableEq
structure T3 (α β γ : Type) where
  a : α
  b : β
  c : γ
  deriving DecidableEq
structure T4 (α β γ δ : Type) where
  a : α
  b : β
  c : γ
  d : δ
  deriving DecidableEq
structure T5 (α β γ δ ε : Type) where
  a : α
  b : β
  c : γ
  d : δ
  e : ε
  deriving DecidableEq
structure T6 (α β γ δ ε ζ : Type) where
  a : α
  b : β
  c : γ
  d : δ
  e : ε
  f : ζ
  deriving DecidableEq
instance {α : Type} [Emb α] : Emb (T1 α) := ⟨fun p => .tup [Emb.d p.a]⟩
instance {α β γ : Type} [Emb α] [Emb β] [Emb γ] : Emb (T3 α β γ) := ⟨fun p => .tup [Emb.d p.a, Emb.d p.b, Emb.d p.c]⟩
instance {α β γ δ : Type} [Emb α] [Emb β] [Emb γ] [Emb δ] : Emb (T4 α β γ δ) := ⟨fun p => .tup [Emb.d p.a, Emb.d p.b, Emb.d p.c, Emb.d p.d]⟩
instance {α β γ δ ε : Type} [Emb α] [Emb β] [Emb γ] [Emb δ] [Emb ε] : Emb (T5 α β γ δ ε) := ⟨fun p => .tup [Emb.d p.a, Emb.d p.b, Emb.d p.c, Emb.d p.d, Emb.d p.e]⟩
instance {α β γ δ ε ζ : Type} [Emb α] [Emb β] [Emb γ] [Emb δ] [Emb ε] [Emb ζ] : Emb (T6 α β γ δ ε ζ) := ⟨fun p => .tup [Emb.d p.a, Emb.d p.b, Emb.d p.c, Emb.d p.d, Emb.d p.e, Emb.d p.f]⟩
abbrev sV {α : Type} [Emb α] (x : α) : Sl := .val (Emb.d x)
abbrev sO {α : Type} [Emb α] (x : List α) : Sl := .own (x.map Emb.d)
abbrev sP {α : Type} [Emb α] (x : List α) : Sl := .pk (x.map Emb.d)
abbrev vV {α : Type} [Emb α] (x : α) : Vl := .val (Emb.d x)
abbrev vO {α : Type} [Emb α] (x : List α) : Vl := .own (x.map Emb.d)
def Rl {α β : Type} (V : α → β) (m : Res β) : Res α → Prop
  | .ok a => m = .ok (V a)
  | .err k fs => m = .err k fs
  | .bad => True
section
variable {α β γ δ : Type} {V : α → β} {W : γ → δ} {m : Res β} {f : β → Res δ} {x : α}
theorem rl_ok (h : m = .ok (V x)) : Rl V m (.ok x) := h
theorem rl_bad : Rl V m .bad := trivial
theorem Rl.eq (h : Rl V m (.ok x)) : m = .ok (V x) := h
theorem bP {r : Res γ} (x : α) (h : Rl V m (.ok x)) (k : Rl W (f (V x)) r) : Rl W (m.bind f) r := by
  have h : m = .ok (V x) := h
  rw [h]
  exact k
theorem bM {r : Res α} {k : α → Res γ} (h : Rl V m r) (k' : ∀ x, Rl W (f (V x)) (k x)) : Rl W (m.bind f) (r.bind k) := by
  cases r with
  | ok a => have h : m = .ok (V a) := h; rw [h]; exact k' a
  | err c fs => have h : m = .err c fs := h; rw [h]; rfl
  | bad => trivial
theorem rl_map {W : γ → β} {r : Res α} {g : α → γ} (h : Rl V m r) (hg : ∀ x, W (g x) = V x) : Rl W m (r.bind fun x => .ok (g x)) := by
  cases r with
  | ok a => have h : m = .ok (V a) := h; rw [h, ← hg a]; rfl
  | err c fs => exact h
  | bad => trivial
/-- a plain function asks more than the deep one -/
theorem rl_if {r : Res α} {p : Prop} [Decidable p] (h : p → Rl V m r) : Rl V m (if p then r else .bad) := by
  by_cases q : p
  · rw [if_pos q]; exact h q
  · rw [if_neg q]; trivial
theorem rl_ite {b : Bool} {r s : Res α} {m' : Res β} (h : Rl V m r) (h' : Rl V m' s) : Rl V (if b = true then m else m') (if b = true then r else s) := by
  cases b
  · exact h'
  · exact h
end
abbrev idB (b : Bool) : Bool := b
/-! ### operands -/
section
variable {α β γ δ : Type} [Emb α] [Emb β] {c : Ctx} {env : Env} {x : α} {i : Nat} {e : E} {r : Res α} {δ' : Type} {W : γ → δ} {s : Res γ}
theorem E_v (h : getv env i = .ok (.val (toD x))) : Rl vV (ev c (.v i) env) (.ok x) := by rw [ev]; exact h
theorem E_int (j : Int) : Rl vV (ev c (.int j) env) (.ok j) := by rw [ev]; rfl
theorem E_bl (j : Bool) : Rl vV (ev c (.bl j) env) (.ok j) := by rw [ev]; rfl
theorem E_str (j : Str) : Rl vV (ev c (.str j) env) (.ok j) := by rw [ev]; rfl
theorem E_non : Rl vV (ev c .non env) (.ok ()) := by rw [ev]; rfl
theorem E_g {n : Nat} (j : Int) : Rl vV (ev c (.g n (.int j)) env) (.ok j) := by rw [ev]; rfl
theorem E_gs {n : Nat} (j : Str) : Rl vV (ev c (.g n (.str j)) env) (.ok j) := by rw [ev]; rfl
theorem P_s (h : peek env i = .ok (toD x)) : Rl toD (po c (.s i) env) (.ok x) := by rw [po]; exact h
theorem P_v (h : Rl vV (ev c e env) r) : Rl toD (po c (.e e) env) r := by
  rw [po]
  cases r with
  | ok a => have h := h.eq; rw [h]; rfl
  | err k fs => have h : ev c e env = .err k fs := h; rw [h]; rfl
  | bad => trivial
theorem P_o {r : Res (List α)} (h : Rl vO (ev c e env) r) : Rl toD (po c (.e e) env) r := by
  rw [po]
  cases r with
  | ok a => have h := h.eq; rw [h]; rfl
  | err k fs => have h : ev c e env = .err k fs := h; rw [h]; rfl
  | bad => trivial
theorem Q_s (h : peekT env i = .ok (toD x)) : Rl toD (pt c (.s i) env) (.ok x) := by rw [pt]; exact h
theorem Q_v (h : Rl vV (ev c e env) r) : Rl toD (pt c (.e e) env) r := by
  rw [pt]
  cases r with
  | ok a => have h := h.eq; rw [h]; rfl
  | err k fs => have h : ev c e env = .err k fs := h; rw [h]; rfl
  | bad => trivial
theorem Q_o {r : Res (List α)} (h : Rl vO (ev c e env) r) : Rl toD (pt c (.e e) env) r := by
  rw [pt]
  cases r with
  | ok a => have h := h.eq; rw [h]; rfl
  | err k fs => have h : ev c e env = .err k fs := h; rw [h]; rfl
  | bad => trivial
theorem A_p {o : O} (h : Rl toD (po c o env) r) : Rl toD (arg c (.p o) env) r := by rw [arg]; exact h
theorem A_v (h : Rl vV (ev c e env) r) : Rl toD (arg c (.e e) env) r := by
  rw [arg]
  cases r with
  | ok a => have h := h.eq; rw [h]; rfl
  | err k fs => have h : ev c e env = .err k fs := h; rw [h]; rfl
  | bad => trivial
theorem A_o {r : Res (List α)} (h : Rl vO (ev c e env) r) : Rl toD (arg c (.e e) env) r := by
  rw [arg]
  cases r with
  | ok a => have h := h.eq; rw [h]; rfl
  | err k fs => have h : ev c e env = .err k fs := h; rw [h]; rfl
  | bad => trivial
/-! ### expressions -/
variable {V : γ → Vl}
theorem E_neg {r : Res γ} (h : Rl V ((ev c e env).bind fun x => (neg x.d).bind fun d => .ok (.val d)) r) : Rl V (ev c (.neg e) env) r := by rw [ev]; exact h
theorem E_not {r : Res γ} (h : Rl V ((ev c e env).bind fun x => (truthV x).bind fun b => .ok (.val (.bl (!b)))) r) : Rl V (ev c (.not e) env) r := by rw [ev]; exact h
theorem E_bin {r : Res γ} {o : O2} {a b : O} (h : Rl V ((pt c a env).bind fun x => (pt c b env).bind fun y => bin o x y) r) : Rl V (ev c (.bin o a b) env) r := by rw [ev]; exact h
theorem E_cmp {r : Res γ} {o : OC} {a b : O} (h : Rl V ((po c a env).bind fun x => (po c b env).bind fun y => ofB (cmp o x y)) r) : Rl V (ev c (.cmp o a b) env) r := by rw [ev]; exact h
theorem E_ch2 {r : Res γ} {o p : OC} {a b d : O} (h : Rl V ((po c a env).bind fun x => (po c b env).bind fun y => (cmp o x y).bind fun k => if k = true then (po c d env).bind fun z => ofB (cmp p y z) else .ok (.val (.bl false))) r) : Rl V (ev c (.ch2 o p a b d) env) r := by rw [ev]; exact h
theorem E_ch3 {r : Res γ} {o p q : OC} {a b d f : O} (h : Rl V ((po c a env).bind fun x => (po c b env).bind fun y => (cmp o x y).bind fun k => if k = true then (po c d env).bind fun z => (cmp p y z).bind fun l =>
      if l = true then (po c f env).bind fun w => ofB (cmp q z w) else .ok (.val (.bl false)) else .ok (.val (.bl false))) r) : Rl V (ev c (.ch3 o p q a b d f) env) r := by rw [ev]; exact h
theorem E_tup {r : Res γ} {es : List E} (h : Rl V ((evs c es env).bind fun ds => if ds.length ≤ SL then .ok (.val (.tup ds)) else .bad) r) : Rl V (ev c (.tup es) env) r := by rw [ev]; exact h
theorem E_lst {r : Res γ} {es : List E} (h : Rl V ((evs c es env).bind fun ds => if ds.length ≤ SL then .ok (.own ds) else .bad) r) : Rl V (ev c (.lst es) env) r := by rw [ev]; exact h
theorem E_ix {r : Res γ} {a b : O} (h : Rl V ((po c a env).bind fun x => (po c b env).bind fun y => (index x y).bind fun d => .ok (.val d)) r) : Rl V (ev c (.ix a b) env) r := by rw [ev]; exact h
theorem E_sl {r : Res γ} {a : O} {lo hi : Option E} (h : Rl V ((po c a env).bind fun x => (part c lo env).bind fun l => (part c hi env).bind fun h => slice x l h) r) : Rl V (ev c (.sl a lo hi) env) r := by rw [ev]; exact h
theorem E_call {r : Res γ} {f : Nat} {es : List A} (h : Rl V ((args c es env).bind fun ds => c.call f ds) r) : Rl V (ev c (.call f es) env) r := by rw [ev]; exact h
theorem E_mk {r : Res γ} {f : Nat} {es : List A} (h : Rl V ((args c es env).bind fun ds => c.call f ds) r) : Rl V (ev c (.mk f es) env) r := by rw [ev]; exact h
theorem E_mth {r : Res γ} {k f : Nat} {o : E} {es : List A} {fs : List D} (ho : Rl vV (ev c o env) (.ok x)) (hx : toD x = .ins k fs) (h : Rl V ((args c es env).bind fun ds => c.call f (.ins k fs :: ds)) r) : Rl V (ev c (.mth k f o es) env) r := by
  rw [ev, ho.eq]
  simp only [Res.bind_ok, Vl.d_val]
  show Rl V (match toD x with
    | .ins k' fs => if k' = k then (args c es env).bind fun ds => c.call f (.ins k fs :: ds) else .bad
    | _ => .bad) r
  rw [hx]
  simp only [if_true]
  exact h
theorem E_fld {k j : Nat} {o : E} {fs : List D} {y : β} (ho : Rl vV (ev c o env) (.ok x)) (hx : toD x = .ins k fs) (hy : fs[j]? = some (toD y)) : Rl vV (ev c (.fld o k j) env) (.ok y) := by
  rw [ev, ho.eq]
  simp only [Res.bind_ok, Vl.d_val]
  show Rl vV (match toD x with
    | .ins k' fs => if k' = k then (match fs[j]? with
      | some d => .ok (.val d)
      | none => .bad) else .bad
    | _ => .bad) (.ok y)
  rw [hx]
  simp only [if_true, hy]
  rfl
theorem E_fldM {k j : Nat} {o : E} {fs : α → List D} {y : α → β} (ho : Rl vV (ev c o env) r) (hx : ∀ x : α, toD x = .ins k (fs x)) (hy : ∀ x, (fs x)[j]? = some (toD (y x))) : Rl vV (ev c (.fld o k j) env) (r.bind fun x => .ok (y x)) := by
  rw [ev]
  refine bM ho fun x => ?_
  simp only [Vl.d_val]
  show Rl vV (match toD x with
    | .ins k' fs => if k' = k then (match fs[j]? with
      | some d => .ok (.val d)
      | none => .bad) else .bad
    | _ => .bad) (.ok (y x))
  rw [hx]
  simp only [if_true, hy]
  rfl
@[irreducible] def xfR (fs : List D) (j : Nat) : Res D := match fs[j]? with
  | some d => .ok d
  | none => .bad
theorem E_xf {k j : Nat} {fs : List D} (h : env[i]? = some (.exc k fs)) : Rl vV (ev c (.xf i k j) env) (xfR fs j) := by
  rw [ev, h]
  simp only [if_true]
  unfold xfR
  cases fs[j]? <;> first | rfl | exact True.intro
theorem E_sf {k j : Nat} {fs : List D} (h : env[i]? = some (.obj k fs)) (h2 : fs[j]? = some (toD x)) : Rl vV (ev c (.sf i k j) env) (.ok x) := by
  rw [ev, h]
  simp only [if_true, h2]
  rfl
theorem E_isx {k : Nat} {fs : List D} (h : env[i]? = some (.exc k fs)) : Rl vV (ev c (.isx i) env) (.ok true) := by
  rw [ev, h]
  rfl
theorem E_b1 {r : Res γ} {b : B1} {a : O} (h : Rl V ((po c a env).bind fun x => b1 b x) r) : Rl V (ev c (.b1 b a) env) r := by rw [ev]; exact h
theorem E_b2 {r : Res γ} {b : B2} {a d : O} (h : Rl V ((po c a env).bind fun x => (po c d env).bind fun y => b2 b x y) r) : Rl V (ev c (.b2 b a d) env) r := by rw [ev]; exact h
theorem E_isi {r : Res γ} {t : Ty} {a : O} (h : Rl V ((po c a env).bind fun x => ofB (isTy x t)) r) : Rl V (ev c (.isi a t) env) r := by rw [ev]; exact h
theorem E_m1 {r : Res γ} {o : E} {a : O} {k : M1} {z : Str} (ho : Rl vV (ev c o env) (.ok z)) (h : Rl V ((po c a env).bind fun y => m1 k z y) r) : Rl V (ev c (.m1 k o a) env) r := by
  rw [ev, ho.eq]
  exact h
theorem E_m1M {o : E} {a : O} {k : M1} {rz : Res Str} {kk : Str → Res γ} (ho : Rl vV (ev c o env) rz) (h : ∀ z, Rl V ((po c a env).bind fun y => m1 k z y) (kk z)) : Rl V (ev c (.m1 k o a) env) (rz.bind kk) := by
  rw [ev]
  exact bM ho fun z => h z
theorem E_fmt {r : Res γ} {a : E} (h : Rl V ((ev c a env).bind fmtV) r) : Rl V (ev c (.fmt a) env) r := by rw [ev]; exact h
theorem E_js {r : Res γ} {es : List E} (h : Rl V (js c es PySem.Str.empty env) r) : Rl V (ev c (.js es) env) r := by rw [ev]; exact h
/-! a list of values, argument by argument -/
theorem K_nil {f : List D → Res δ} {r : Res γ} {W : γ → δ} (h : Rl W (f []) r) : Rl W ((evs c [] env).bind f) r := by rw [evs]; exact h
theorem bind_assoc {a b d : Type} (m : Res a) (f : a → Res b) (g : b → Res d) : (m.bind f).bind g = m.bind fun x => (f x).bind g := by cases m <;> rfl
theorem K_cons {es : List E} {f : List D → Res δ} {r : Res γ} {W : γ → δ} (h : Rl W ((ev c e env).bind fun x => (evs c es env).bind fun ds => f (x.d :: ds)) r) : Rl W ((evs c (e :: es) env).bind f) r := by
  rw [evs]
  simp only [bind_assoc, Res.bind_ok]
  exact h
theorem G_nil {f : List D → Res δ} {r : Res γ} {W : γ → δ} (h : Rl W (f []) r) : Rl W ((args c [] env).bind f) r := by rw [args]; exact h
theorem G_cons {a : A} {es : List A} {f : List D → Res δ} {r : Res γ} {W : γ → δ} (h : Rl W ((arg c a env).bind fun x => (args c es env).bind fun ds => f (x :: ds)) r) : Rl W ((args c (a :: es) env).bind f) r := by
  rw [args]
  simp only [bind_assoc, Res.bind_ok]
  exact h
theorem L_none {f : Option Int → Res δ} {r : Res γ} {W : γ → δ} (h : Rl W (f none) r) : Rl W ((part c none env).bind f) r := by rw [part]; exact h
theorem L_some {f : Option Int → Res δ} {r : Res γ} {W : γ → δ} (j : Int) (he : Rl vV (ev c e env) (.ok j)) (h : Rl W (f (some j)) r) : Rl W ((part c (some e) env).bind f) r := by
  rw [part, he.eq]
  exact h
theorem L_someM {f : Option Int → Res δ} {rj : Res Int} {k : Int → Res γ} {W : γ → δ} (he : Rl vV (ev c e env) rj) (h : ∀ j, Rl W (f (some j)) (k j)) : Rl W ((part c (some e) env).bind f) (rj.bind k) := by
  rw [part, bind_assoc]
  exact bM he fun j => h j
end
/-! ### and, or -/
section
variable {c : Ctx} {env : Env} {a b : E} {x y : Bool} {r s : Res Bool} {t u : T}
theorem E_and (h1 : Rl vV (ev c a env) (.ok x)) (h2 : Rl vV (ev c b env) (.ok y)) : Rl vV (ev c (.and a b) env) (.ok (x && y)) := by
  rw [ev, h1.eq]
  cases x
  · rfl
  · exact h2
theorem E_andI (h1 : Rl vV (ev c a env) (.ok x)) (h2 : Rl vV (ev c b env) s) : Rl vV (ev c (.and a b) env) (if x = true then s else .ok false) := by
  rw [ev, h1.eq]
  cases x
  · rfl
  · exact h2
theorem E_andM (h1 : Rl vV (ev c a env) r) (h2 : Rl vV (ev c b env) s) : Rl vV (ev c (.and a b) env) (r.bind fun x => if x = true then s else .ok false) := by
  rw [ev]
  refine bM h1 fun x => ?_
  cases x
  · rfl
  · exact h2
theorem E_or (h1 : Rl vV (ev c a env) (.ok x)) (h2 : Rl vV (ev c b env) (.ok y)) : Rl vV (ev c (.or a b) env) (.ok (x || y)) := by
  rw [ev, h1.eq]
  cases x
  · exact h2
  · rfl
theorem E_orI (h1 : Rl vV (ev c a env) (.ok x)) (h2 : Rl vV (ev c b env) s) : Rl vV (ev c (.or a b) env) (if x = true then .ok true else s) := by
  rw [ev, h1.eq]
  cases x
  · exact h2
  · rfl
theorem E_orM (h1 : Rl vV (ev c a env) r) (h2 : Rl vV (ev c b env) s) : Rl vV (ev c (.or a b) env) (r.bind fun x => if x = true then .ok true else s) := by
  rw [ev]
  refine bM h1 fun x => ?_
  cases x
  · exact h2
  · rfl
theorem T_v {o : O} (h : Rl idB ((po c o env).bind truth) r) : Rl idB (tv c (.v o) env) r := by rw [tv]; exact h
theorem T_not (h : Rl idB (tv c t env) (.ok x)) : Rl idB (tv c (.not t) env) (.ok (!x)) := by rw [tv, h.eq]; rfl
theorem T_notM (h : Rl idB (tv c t env) r) : Rl idB (tv c (.not t) env) (r.bind fun x => .ok (!x)) := by
  rw [tv]
  exact bM h fun x => rfl
theorem T_and (h1 : Rl idB (tv c t env) (.ok x)) (h2 : Rl idB (tv c u env) (.ok y)) : Rl idB (tv c (.and t u) env) (.ok (x && y)) := by
  rw [tv, h1.eq]
  cases x
  · rfl
  · exact h2
theorem T_andI (h1 : Rl idB (tv c t env) (.ok x)) (h2 : Rl idB (tv c u env) s) : Rl idB (tv c (.and t u) env) (if x = true then s else .ok false) := by
  rw [tv, h1.eq]
  cases x
  · rfl
  · exact h2
theorem T_andM (h1 : Rl idB (tv c t env) r) (h2 : Rl idB (tv c u env) s) : Rl idB (tv c (.and t u) env) (r.bind fun x => if x = true then s else .ok false) := by
  rw [tv]
  refine bM h1 fun x => ?_
  cases x
  · rfl
  · exact h2
theorem T_or (h1 : Rl idB (tv c t env) (.ok x)) (h2 : Rl idB (tv c u env) (.ok y)) : Rl idB (tv c (.or t u) env) (.ok (x || y)) := by
  rw [tv, h1.eq]
  cases x
  · exact h2
  · rfl
theorem T_orI (h1 : Rl idB (tv c t env) (.ok x)) (h2 : Rl idB (tv c u env) s) : Rl idB (tv c (.or t u) env) (if x = true then .ok true else s) := by
  rw [tv, h1.eq]
  cases x
  · exact h2
  · rfl
theorem T_orM (h1 : Rl idB (tv c t env) r) (h2 : Rl idB (tv c u env) s) : Rl idB (tv c (.or t u) env) (r.bind fun x => if x = true then .ok true else s) := by
  rw [tv]
  refine bM h1 fun x => ?_
  cases x
  · exact h2
  · rfl
theorem T_cmp {o : OC} {a b : O} (h : Rl idB ((po c a env).bind fun x => (po c b env).bind fun y => cmp o x y) r) : Rl idB (tv c (.cmp o a b) env) r := by rw [tv]; exact h
theorem T_ch2 {o p : OC} {a b d : O} (h : Rl idB ((po c a env).bind fun x => (po c b env).bind fun y => (cmp o x y).bind fun k => if k = true then (po c d env).bind fun z => cmp p y z else .ok false) r) : Rl idB (tv c (.ch2 o p a b d) env) r := by rw [tv]; exact h
theorem T_ch3 {o p q : OC} {a b d f : O} (h : Rl idB ((po c a env).bind fun x => (po c b env).bind fun y => (cmp o x y).bind fun k => if k = true then (po c d env).bind fun z => (cmp p y z).bind fun l =>
      if l = true then (po c f env).bind fun w => cmp q z w else .ok false else .ok false) r) : Rl idB (tv c (.ch3 o p q a b d f) env) r := by rw [tv]; exact h
theorem y_ofB {m : Res Bool} (h : Rl idB m r) : Rl vV (ofB m) r := by
  cases r with
  | ok a => have h : m = .ok a := h; rw [h]; rfl
  | err k fs => have h : m = .err k fs := h; rw [h]; rfl
  | bad => trivial
theorem y_ch {m : Res Bool} {m' : Res Vl} (h1 : Rl idB m (.ok x)) (h2 : Rl vV m' (.ok y)) : Rl vV (m.bind fun k => if k = true then m' else .ok (.val (.bl false))) (.ok (x && y)) := by
  rw [h1.eq]
  cases x
  · rfl
  · exact h2
theorem y_chI {m : Res Bool} {m' : Res Vl} (h1 : Rl idB m (.ok x)) (h2 : Rl vV m' s) : Rl vV (m.bind fun k => if k = true then m' else .ok (.val (.bl false))) (if x = true then s else .ok false) := by
  rw [h1.eq]
  cases x
  · rfl
  · exact h2
theorem y_chT {m : Res Bool} {m' : Res Bool} (h1 : Rl idB m (.ok x)) (h2 : Rl idB m' (.ok y)) : Rl idB (m.bind fun k => if k = true then m' else .ok false) (.ok (x && y)) := by
  rw [h1.eq]
  cases x
  · rfl
  · exact h2
theorem y_chTI {m : Res Bool} {m' : Res Bool} (h1 : Rl idB m (.ok x)) (h2 : Rl idB m' s) : Rl idB (m.bind fun k => if k = true then m' else .ok false) (if x = true then s else .ok false) := by
  rw [h1.eq]
  cases x
  · rfl
  · exact h2
end
/-! ### == -/
class EqC (α : Type) [Emb α] where
  dep : Nat
  ok : ∀ n (x : α), dep ≤ n → eqOk n (Emb.d x) = true
  eq : ∀ x y : α, eqD (Emb.d x) (Emb.d y) = true ↔ x = y
/-- never None -/
class EqN (α : Type) [Emb α] : Prop where
  l : ∀ x : α, eqD .non (Emb.d x) = false
  r : ∀ x : α, eqD (Emb.d x) .non = false
instance : EqC Int := ⟨0, fun n x _ => by show eqOk n (.int x) = true; simp [eqOk], fun x y => by show eqD (.int x) (.int y) = true ↔ _; simp [eqD]⟩
instance : EqC Bool := ⟨0, fun n x _ => by show eqOk n (.bl x) = true; simp [eqOk], fun x y => by show eqD (.bl x) (.bl y) = true ↔ _; simp [eqD]⟩
instance : EqC Unit := ⟨0, fun n x _ => by show eqOk n .non = true; simp [eqOk], fun x y => by show eqD .non .non = true ↔ _; simp [eqD]⟩
instance : EqN Int := ⟨fun x => rfl, fun x => rfl⟩
instance : EqN Bool := ⟨fun x => rfl, fun x => rfl⟩
instance : EqN Str := ⟨fun x => rfl, fun x => rfl⟩
instance {α : Type} [Emb α] : EqN (List α) := ⟨fun x => rfl, fun x => rfl⟩
instance {α β : Type} [Emb α] [Emb β] : EqN (α × β) := ⟨fun x => rfl, fun x => rfl⟩
instance {α β γ : Type} [Emb α] [Emb β] [Emb γ] : EqN (T3 α β γ) := ⟨fun x => rfl, fun x => rfl⟩
instance {α β γ δ : Type} [Emb α] [Emb β] [Emb γ] [Emb δ] : EqN (T4 α β γ δ) := ⟨fun x => rfl, fun x => rfl⟩
instance {α β γ δ ε : Type} [Emb α] [Emb β] [Emb γ] [Emb δ] [Emb ε] : EqN (T5 α β γ δ ε) := ⟨fun x => rfl, fun x => rfl⟩
instance {α : Type} [Emb α] [EqC α] [EqN α] : EqC (Option α) := ⟨EqC.dep α, fun n x h => match x with
  | none => by show eqOk n .non = true; simp [eqOk]
  | some y => EqC.ok n y h, fun x y => match x, y with
  | none, none => by show eqD .non .non = true ↔ _; simp [eqD]
  | none, some y => by show eqD .non (Emb.d y) = true ↔ _; rw [EqN.l]; simp
  | some y, none => by show eqD (Emb.d y) .non = true ↔ _; rw [EqN.r]; simp
  | some x, some y => by show eqD (Emb.d x) (Emb.d y) = true ↔ _; rw [EqC.eq]; simp⟩
theorem eqs_ok {α : Type} [Emb α] [EqC α] {n : Nat} (h : EqC.dep α ≤ n) : ∀ xs : List α, eqOks n (xs.map Emb.d) = true
  | [] => by simp [eqOks]
  | x :: xs => by simp [eqOks, EqC.ok n x h, eqs_ok h xs]
theorem eqs_eq {α : Type} [Emb α] [EqC α] : ∀ xs ys : List α, eqDs (xs.map Emb.d) (ys.map Emb.d) = true ↔ xs = ys
  | [], [] => by simp [eqDs]
  | [], y :: ys => by simp [eqDs]
  | x :: xs, [] => by simp [eqDs]
  | x :: xs, y :: ys => by simp [eqDs, EqC.eq, eqs_eq xs ys]
instance {α : Type} [Emb α] [EqC α] : EqC (List α) := ⟨EqC.dep α + 1, fun n x h => by
  obtain ⟨m, rfl⟩ : ∃ m, n = m + 1 := ⟨n - 1, by omega⟩
  show eqOk (m + 1) (.lst (x.map Emb.d)) = true
  rw [eqOk]
  exact eqs_ok (by omega) x, fun x y => by
  show eqD (.lst (x.map Emb.d)) (.lst (y.map Emb.d)) = true ↔ _
  rw [eqD]
  exact eqs_eq x y⟩
instance {α β : Type} [Emb α] [Emb β] [EqC α] [EqC β] : EqC (α × β) := ⟨EqC.dep α + EqC.dep β + 1, fun n x h => by
  obtain ⟨m, rfl⟩ : ∃ m, n = m + 1 := ⟨n - 1, by omega⟩
  show eqOk (m + 1) (.tup [Emb.d x.1, Emb.d x.2]) = true
  simp [eqOk, eqOks, EqC.ok m x.1 (by omega), EqC.ok m x.2 (by omega)], fun x y => by
  show eqD (.tup [Emb.d x.1, Emb.d x.2]) (.tup [Emb.d y.1, Emb.d y.2]) = true ↔ _
  simp [eqD, eqDs, EqC.eq, Prod.ext_iff]⟩
instance {α β γ : Type} [Emb α] [Emb β] [Emb γ] [EqC α] [EqC β] [EqC γ] : EqC (T3 α β γ) := ⟨EqC.dep α + EqC.dep β + EqC.dep γ + 1, fun n x h => by
  obtain ⟨m, rfl⟩ : ∃ m, n = m + 1 := ⟨n - 1, by omega⟩
  show eqOk (m + 1) (.tup [Emb.d x.a, Emb.d x.b, Emb.d x.c]) = true
  simp [eqOk, eqOks, EqC.ok m x.a (by omega), EqC.ok m x.b (by omega), EqC.ok m x.c (by omega)], fun x y => by
  show eqD (.tup [Emb.d x.a, Emb.d x.b, Emb.d x.c]) (.tup [Emb.d y.a, Emb.d y.b, Emb.d y.c]) = true ↔ _
  cases x; cases y
  simp [eqD, eqDs, EqC.eq]⟩
instance {α β γ δ : Type} [Emb α] [Emb β] [Emb γ] [Emb δ] [EqC α] [EqC β] [EqC γ] [EqC δ] : EqC (T4 α β γ δ) := ⟨EqC.dep α + EqC.dep β + EqC.dep γ + EqC.dep δ + 1, fun n x h => by
  obtain ⟨m, rfl⟩ : ∃ m, n = m + 1 := ⟨n - 1, by omega⟩
  show eqOk (m + 1) (.tup [Emb.d x.a, Emb.d x.b, Emb.d x.c, Emb.d x.d]) = true
  simp [eqOk, eqOks, EqC.ok m x.a (by omega), EqC.ok m x.b (by omega), EqC.ok m x.c (by omega), EqC.ok m x.d (by omega)], fun x y => by
  show eqD (.tup [Emb.d x.a, Emb.d x.b, Emb.d x.c, Emb.d x.d]) (.tup [Emb.d y.a, Emb.d y.b, Emb.d y.c, Emb.d y.d]) = true ↔ _
  cases x; cases y
  simp [eqD, eqDs, EqC.eq]⟩
/-- == where the types tell too little -/
@[irreducible] def eqR {α β : Type} [Emb α] [Emb β] (x : α) (y : β) : Res Bool := if eqOk 60 (Emb.d x) && eqOk 60 (Emb.d y) then .ok (eqD (Emb.d x) (Emb.d y)) else .bad
@[irreducible] def neR {α β : Type} [Emb α] [Emb β] (x : α) (y : β) : Res Bool := if eqOk 60 (Emb.d x) && eqOk 60 (Emb.d y) then .ok (!eqD (Emb.d x) (Emb.d y)) else .bad
@[irreducible] def inL {α β : Type} [Emb α] [Emb β] (x : α) (y : List β) : Res Bool := if eqOk 60 (Emb.d x) && eqOk 60 (.lst (y.map Emb.d)) then .ok ((y.map Emb.d).any fun z => eqD z (Emb.d x)) else .bad
@[irreducible] def niL {α β : Type} [Emb α] [Emb β] (x : α) (y : List β) : Res Bool := if eqOk 60 (Emb.d x) && eqOk 60 (.lst (y.map Emb.d)) then .ok (!(y.map Emb.d).any fun z => eqD z (Emb.d x)) else .bad
section
variable {α β : Type} [Emb α] [Emb β]
theorem rl_id {m r : Res Bool} (h : m = r) : Rl idB m r := by
  rw [h]
  cases r <;> first | rfl | exact True.intro
theorem y_eqR (x : α) (y : β) : Rl idB (cmp .eq (Emb.d x) (Emb.d y)) (eqR x y) := by unfold eqR; exact rl_id rfl
theorem y_neR (x : α) (y : β) : Rl idB (cmp .ne (Emb.d x) (Emb.d y)) (neR x y) := by unfold neR; exact rl_id rfl
theorem y_eq [EqC α] (x y : α) (h : EqC.dep α ≤ 60) [Decidable (x = y)] : Rl idB (cmp .eq (Emb.d x) (Emb.d y)) (.ok (decide (x = y))) := by
  have e : eqD (Emb.d x) (Emb.d y) = decide (x = y) := by rw [Bool.eq_iff_iff, EqC.eq, decide_eq_true_iff]
  show cmp .eq (Emb.d x) (Emb.d y) = .ok (decide (x = y))
  simp only [cmp, EqC.ok 60 x h, EqC.ok 60 y h, Bool.and_self, if_true, e]
theorem y_ne [EqC α] (x y : α) (h : EqC.dep α ≤ 60) [Decidable (x ≠ y)] : Rl idB (cmp .ne (Emb.d x) (Emb.d y)) (.ok (decide (x ≠ y))) := by
  have e : (!eqD (Emb.d x) (Emb.d y)) = decide (x ≠ y) := by rw [Bool.eq_iff_iff, decide_eq_true_iff, Bool.not_eq_true', ← Bool.not_eq_true, EqC.eq]
  show cmp .ne (Emb.d x) (Emb.d y) = .ok (decide (x ≠ y))
  simp only [cmp, EqC.ok 60 x h, EqC.ok 60 y h, Bool.and_self, if_true, e]
theorem any_mem' [EqC α] (x : α) : ∀ ys : List α, ((ys.map Emb.d).any fun z => eqD z (Emb.d x)) = true ↔ x ∈ ys
  | [] => by simp
  | y :: ys => by
    rw [List.map_cons, List.any_cons, Bool.or_eq_true, any_mem' x ys, EqC.eq, List.mem_cons]
    exact ⟨fun h => h.imp Eq.symm id, fun h => h.imp Eq.symm id⟩
theorem any_mem [EqC α] (x : α) (ys : List α) [Decidable (x ∈ ys)] : ((ys.map Emb.d).any fun z => eqD z (Emb.d x)) = decide (x ∈ ys) := by
  rw [Bool.eq_iff_iff, any_mem', decide_eq_true_iff]
theorem any_nmem [EqC α] (x : α) (ys : List α) [Decidable (x ∉ ys)] : (!(ys.map Emb.d).any fun z => eqD z (Emb.d x)) = decide (x ∉ ys) := by
  rw [Bool.eq_iff_iff, decide_eq_true_iff, Bool.not_eq_true', ← Bool.not_eq_true, any_mem']
theorem lst_ok [EqC α] (ys : List α) (h : EqC.dep α ≤ 59) : eqOk 60 (.lst (ys.map Emb.d)) = true := by rw [eqOk]; exact eqs_ok h ys
theorem y_in [EqC α] (x : α) (ys : List α) (h : EqC.dep α ≤ 59) [Decidable (x ∈ ys)] : Rl idB (cmp .isin (Emb.d x) (Emb.d ys)) (.ok (decide (x ∈ ys))) := by
  have e1 : eqOk 60 (Emb.d x) = true := EqC.ok 60 x (by omega)
  have e2 := lst_ok ys h
  have e3 := any_mem x ys
  show cmp .isin (Emb.d x) (.lst (ys.map Emb.d)) = _
  cases q : (Emb.d x : D) <;> rw [q] at e1 e3 <;> simp only [cmp, e1, e2, Bool.and_self, if_true, e3]
theorem y_ni [EqC α] (x : α) (ys : List α) (h : EqC.dep α ≤ 59) [Decidable (x ∉ ys)] : Rl idB (cmp .notin (Emb.d x) (Emb.d ys)) (.ok (decide (x ∉ ys))) := by
  have e1 : eqOk 60 (Emb.d x) = true := EqC.ok 60 x (by omega)
  have e2 := lst_ok ys h
  have e3 := any_nmem x ys
  show cmp .notin (Emb.d x) (.lst (ys.map Emb.d)) = _
  cases q : (Emb.d x : D) <;> rw [q] at e1 e3 <;> simp only [cmp, e1, e2, Bool.and_self, if_true, e3]
theorem y_inL (x : α) (ys : List β) : Rl idB (cmp .isin (Emb.d x) (Emb.d ys)) (inL x ys) := by
  refine rl_id ?_
  show cmp .isin (Emb.d x) (.lst (ys.map Emb.d)) = _
  unfold inL
  cases (Emb.d x : D) <;> simp only [cmp]
theorem y_niL (x : α) (ys : List β) : Rl idB (cmp .notin (Emb.d x) (Emb.d ys)) (niL x ys) := by
  refine rl_id ?_
  show cmp .notin (Emb.d x) (.lst (ys.map Emb.d)) = _
  unfold niL
  cases (Emb.d x : D) <;> simp only [cmp]
theorem y_inT (x : Int) (ys : List Int) : Rl idB (cmp .isin (.int x) (.tup (ys.map D.int))) (.ok (decide (x ∈ ys))) := by
  have e := any_mem x ys
  have f : (ys.map D.int).all flatD = true := by rw [List.all_map, List.all_eq_true]; exact fun z _ => rfl
  show cmp .isin (.int x) (.tup (ys.map D.int)) = _
  simp only [cmp, f, flatD, Bool.and_self, if_true]
  exact congrArg Res.ok e
theorem y_niT (x : Int) (ys : List Int) : Rl idB (cmp .notin (.int x) (.tup (ys.map D.int))) (.ok (decide (x ∉ ys))) := by
  have e := any_nmem x ys
  have f : (ys.map D.int).all flatD = true := by rw [List.all_map, List.all_eq_true]; exact fun z _ => rfl
  show cmp .notin (.int x) (.tup (ys.map D.int)) = _
  simp only [cmp, f, flatD, Bool.and_self, if_true]
  exact congrArg Res.ok e
@[irreducible] def inS (x y : Str) : Res Bool := cmp .isin (.str x) (.str y)
@[irreducible] def niS (x y : Str) : Res Bool := cmp .notin (.str x) (.str y)
theorem y_inS (x y : Str) : Rl idB (cmp .isin (Emb.d x) (Emb.d y)) (inS x y) := by unfold inS; exact rl_id rfl
theorem y_niS (x y : Str) : Rl idB (cmp .notin (Emb.d x) (Emb.d y)) (niS x y) := by unfold niS; exact rl_id rfl
theorem y_isN (x : Option α) (h : ∀ y : α, cmp .isN (Emb.d y) .non = .ok false) : Rl idB (cmp .isN (Emb.d x) .non) (.ok x.isNone) := by
  cases x with
  | none => rfl
  | some y => exact h y
theorem y_notN (x : Option α) (h : ∀ y : α, cmp .notN (Emb.d y) .non = .ok true) : Rl idB (cmp .notN (Emb.d x) .non) (.ok x.isSome) := by
  cases x with
  | none => rfl
  | some y => exact h y
theorem isN_f {d : D} (h : eqD d .non = false) : cmp .isN d .non = .ok false := by cases d <;> first | rfl | (simp [eqD] at h)
theorem notN_t {d : D} (h : eqD d .non = false) : cmp .notN d .non = .ok true := by cases d <;> first | rfl | (simp [eqD] at h)
def isND (d : D) : Bool := match d with
  | .non => true
  | _ => false
theorem y_isND (d : D) : Rl idB (cmp .isN d .non) (.ok (isND d)) := by cases d <;> rfl
theorem y_notND (d : D) : Rl idB (cmp .notN d .non) (.ok (!isND d)) := by cases d <;> rfl
/-! ### numbers -/
@[irreducible] def mulR (a b : Int) : Res Int := if mulOk a b = true then .ok (a * b) else .bad
@[irreducible] def divR (a b : Int) : Res Int := if b = 0 then .bad else .ok (a.fdiv b)
@[irreducible] def modR (a b : Int) : Res Int := if b = 0 then .bad else .ok (a.fmod b)
theorem y_mulr {a b : Int} (h : -18446744073709551616 < b) (h2 : b < 18446744073709551616) : Rl vV (bin .mul (Emb.d a) (Emb.d b)) (.ok (a * b)) := bin_mul a b (mul_r h h2)
theorem y_mull {a b : Int} (h : -18446744073709551616 < a) (h2 : a < 18446744073709551616) : Rl vV (bin .mul (Emb.d a) (Emb.d b)) (.ok (a * b)) := bin_mul a b (mul_l h h2)
theorem y_mul (a b : Int) : Rl vV (bin .mul (Emb.d a) (Emb.d b)) (mulR a b) := by
  unfold mulR
  exact rl_if fun h => bin_mul a b h
theorem y_divp {a b : Int} (h : 0 < b) : Rl vV (bin .fdiv (Emb.d a) (Emb.d b)) (.ok (a / b)) := by
  rw [← Int.fdiv_eq_ediv_of_nonneg a (by omega)]
  exact bin_div a b (div_ne (by omega))
theorem y_div (a b : Int) : Rl vV (bin .fdiv (Emb.d a) (Emb.d b)) (divR a b) := by
  unfold divR
  by_cases h : b = 0
  · rw [if_pos h]; trivial
  · rw [if_neg h]; exact bin_div a b (div_ne h)
theorem y_modp {a b : Int} (h : 0 < b) : Rl vV (bin .mod (Emb.d a) (Emb.d b)) (.ok (a % b)) := by
  rw [← Int.fmod_eq_emod_of_nonneg a (by omega)]
  exact bin_mod a b (by omega)
theorem y_mod (a b : Int) : Rl vV (bin .mod (Emb.d a) (Emb.d b)) (modR a b) := by
  unfold modR
  by_cases h : b = 0
  · rw [if_pos h]; trivial
  · rw [if_neg h]; exact bin_mod a b h
theorem y_pow {a b n : Int} (h : powOk a b = true) (h2 : a ^ b.toNat = n) : Rl vV (bin .pow (Emb.d a) (Emb.d b)) (.ok n) := by
  rw [← h2]
  exact bin_pow a b h
@[irreducible] def powR (a b : Int) : Res Int := if powOk a b = true then .ok (a ^ b.toNat) else .bad
theorem y_powR (a b : Int) : Rl vV (bin .pow (Emb.d a) (Emb.d b)) (powR a b) := by
  unfold powR
  exact rl_if fun h => bin_pow a b h
def absI (a : Int) : Int := if a < 0 then -a else a
theorem y_abs (a : Int) : Rl vV (b1 .abs (Emb.d a)) (.ok (absI a)) := rfl
theorem y_max (a b : Int) : Rl vV (b2 .max (Emb.d a) (Emb.d b)) (.ok (max a b)) := b2_max a b
theorem y_min (a b : Int) : Rl vV (b2 .min (Emb.d a) (Emb.d b)) (.ok (min a b)) := b2_min a b
/-- a number that is there -/
def unO {α : Type} : Option α → Res α
  | some x => .ok x
  | none => .bad
theorem rl_unO {β : Type} {V : Option α → β} {W : α → β} {m : Res β} (x : Option α) (h : Rl V m (.ok x)) (e : ∀ y, V (some y) = W y) : Rl W m (unO x) := by
  cases x with
  | none => trivial
  | some y => rw [show m = .ok (V (some y)) from h, e]; rfl
theorem rl_unOM {β : Type} {V : Option α → β} {W : α → β} {m : Res β} {r : Res (Option α)} (h : Rl V m r) (e : ∀ y, V (some y) = W y) : Rl W m (r.bind unO) := by
  cases r with
  | ok x => exact rl_unO x h e
  | err k fs => exact h
  | bad => trivial
/-! ### lists -/
@[irreducible] def appL (a b : List α) : Res (List α) := if a.length + b.length ≤ SL then .ok (a ++ b) else .bad
theorem y_appL (a b : List α) : Rl vO (bin .add (Emb.d a) (Emb.d b)) (appL a b) := by
  unfold appL
  refine rl_if fun h => ?_
  have h' : (a.map Emb.d).length + (b.map (Emb.d : α → D)).length ≤ SL := by rw [List.length_map, List.length_map]; exact h
  show bin .add (.lst (a.map Emb.d)) (.lst (b.map Emb.d)) = .ok (.own ((a ++ b).map Emb.d))
  rw [bin_lst h', List.map_append]
@[irreducible] def repL (a : List α) (n : Int) : Res (List α) := if -(2 ^ 63) ≤ n ∧ n < 2 ^ 63 ∧ a.length * n.toNat ≤ SL then .ok (List.replicate n.toNat a).flatten else .bad
theorem y_repL (a : List α) (n : Int) : Rl vO (bin .mul (Emb.d a) (Emb.d n)) (repL a n) := by
  unfold repL
  refine rl_if fun h => ?_
  have h' : -(2 ^ 63) ≤ n ∧ n < 2 ^ 63 ∧ (a.map Emb.d).length * n.toNat ≤ SL := by rw [List.length_map]; exact h
  show bin .mul (.lst (a.map Emb.d)) (.int n) = .ok (.own ((List.replicate n.toNat a).flatten.map Emb.d))
  simp only [bin]
  rw [if_pos h', List.map_flatten, List.map_replicate]
@[irreducible] def rep1 (x : α) (n : Int) : Res (List α) := if n < 2 ^ 24 ∧ -(2 ^ 63) ≤ n then .ok (List.replicate n.toNat x) else .bad
theorem y_rep1 (x : α) (n : Int) : Rl vO (bin .mul (.lst [Emb.d x]) (Emb.d n)) (rep1 x n) := by
  unfold rep1
  refine rl_if fun h => ?_
  show bin .mul (.lst [Emb.d x]) (.int n) = .ok (.own ((List.replicate n.toNat x).map Emb.d))
  simp only [bin]
  rw [if_pos ⟨by omega, by omega, by simp only [List.length_singleton, SL]; omega⟩, List.map_replicate, List.flatten_replicate_singleton]
@[irreducible] def ixR (xs : List α) (i : Int) : Res α := match (ixNat xs.length i).bind (xs[·]?) with
  | some x => .ok x
  | none => .bad
theorem y_ix (xs : List α) (i : Int) : Rl vV ((index (Emb.d xs) (Emb.d i)).bind fun d => .ok (.val d)) (ixR xs i) := by
  show Rl vV ((index (.lst (xs.map Emb.d)) (.int i)).bind fun d => .ok (.val d)) (ixR xs i)
  unfold ixR
  simp only [index, List.length_map]
  cases ixNat xs.length i with
  | none => trivial
  | some j =>
    simp only [Option.bind_some, List.getElem?_map]
    cases xs[j]? <;> first | rfl | exact True.intro
theorem y_ixT (xs : List α) (i : Int) : Rl vV ((index (.tup (xs.map Emb.d)) (Emb.d i)).bind fun d => .ok (.val d)) (ixR xs i) := by
  show Rl vV ((index (.tup (xs.map Emb.d)) (.int i)).bind fun d => .ok (.val d)) (ixR xs i)
  unfold ixR
  simp only [index, List.length_map]
  cases ixNat xs.length i with
  | none => trivial
  | some j =>
    simp only [Option.bind_some, List.getElem?_map]
    cases xs[j]? <;> first | rfl | exact True.intro
@[irreducible] def ixS (x : Str) (i : Int) : Res Str := if x.length ≤ SL then (match (ixNat x.cps.toList.length i).bind (x.cps.toList[·]?) with
    | some c => .ok ⟨#[c]⟩
    | none => .bad) else .bad
theorem y_ixS (x : Str) (i : Int) : Rl vV ((index (Emb.d x) (Emb.d i)).bind fun d => .ok (.val d)) (ixS x i) := by
  show Rl vV ((index (.str x) (.int i)).bind fun d => .ok (.val d)) (ixS x i)
  unfold ixS
  simp only [index]
  refine rl_if fun h => ?_
  rw [if_pos h]
  cases (ixNat x.cps.toList.length i).bind (x.cps.toList[·]?) <;> first | rfl | exact True.intro
theorem y_sl (xs : List α) (lo hi : Option Int) : Rl vO (slice (Emb.d xs) lo hi) (.ok (cutL xs lo hi)) := by
  show slice (.lst (xs.map Emb.d)) lo hi = _
  simp only [slice, cutL_map']
@[irreducible] def slS (x : Str) (lo hi : Option Int) : Res Str := if x.length ≤ SL then .ok ⟨(cutL x.cps.toList lo hi).toArray⟩ else .bad
theorem y_slS (x : Str) (lo hi : Option Int) : Rl vV (slice (Emb.d x) lo hi) (slS x lo hi) := by
  unfold slS
  refine rl_if fun h => ?_
  show slice (.str x) lo hi = _
  simp only [slice, h, if_true]
  rfl
theorem y_len (xs : List α) : Rl vV (b1 .len (Emb.d xs)) (.ok (xs.length : Int)) := by
  show ((len (.lst (xs.map Emb.d))).bind fun z => Res.ok (Vl.val z)) = _
  simp only [len, List.length_map, Res.bind_ok]
  rfl
@[irreducible] def lenS (x : Str) : Res Int := if x.length ≤ SL then .ok (x.length : Int) else .bad
theorem y_lenS (x : Str) : Rl vV (b1 .len (Emb.d x)) (lenS x) := by
  unfold lenS
  refine rl_if fun h => ?_
  show ((len (.str x)).bind fun z => Res.ok (Vl.val z)) = _
  simp only [len, h, if_true, Res.bind_ok]
  rfl
theorem y_sum (xs : List Int) : Rl vV (b1 .sum (Emb.d xs)) (.ok xs.sum) := by
  show b1 .sum (.lst (xs.map D.int)) = _
  simp only [b1, intsOf_map, sumI]
  rfl
theorem y_list (xs : List α) : Rl vO (b1 .lst (Emb.d xs)) (.ok xs) := rfl
theorem y_sorted (xs : List Int) : Rl vO (b1 .sorted (Emb.d xs)) (.ok (xs.mergeSort leI)) := by
  show sortD (xs.map D.int) = _
  simp only [sortD, intsOf_map]
  rfl
theorem y_sortr (xs : List Int) : Rl vO (b1 .sortr (Emb.d xs)) (.ok (xs.mergeSort geI)) := by
  show b1 .sortr (.lst (xs.map D.int)) = _
  simp only [b1, intsOf_map]
  rfl
theorem pairsOf_map : ∀ xs : List (Int × Int), pairsOf (xs.map Emb.d) = some xs
  | [] => rfl
  | x :: xs => by
    show (pairsOf (xs.map Emb.d)).map _ = _
    rw [pairsOf_map xs]
    rfl
theorem y_sortP (xs : List (Int × Int)) : Rl vO (b1 .sorted (Emb.d xs)) (.ok (xs.mergeSort leP)) := by
  show sortD (xs.map Emb.d) = _
  cases xs with
  | nil =>
    simp [sortD, intsOf]
    rfl
  | cons x xs =>
    have e : intsOf ((x :: xs).map (Emb.d : Int × Int → D)) = none := rfl
    simp only [sortD, e, pairsOf_map]
    rfl
def t3p (t : T3 Int Int Int) : Int × Int × Int := (t.a, t.b, t.c)
def p3t (t : Int × Int × Int) : T3 Int Int Int := ⟨t.1, t.2.1, t.2.2⟩
theorem tripsOf_map : ∀ xs : List (T3 Int Int Int), tripsOf (xs.map Emb.d) = some (xs.map t3p)
  | [] => rfl
  | x :: xs => by
    show (tripsOf (xs.map Emb.d)).map _ = _
    rw [tripsOf_map xs]
    rfl
def sort3 (xs : List (T3 Int Int Int)) : List (T3 Int Int Int) := ((xs.map t3p).mergeSort le3).map p3t
theorem y_sort3 (xs : List (T3 Int Int Int)) : Rl vO (b1 .sorted (Emb.d xs)) (.ok (sort3 xs)) := by
  show sortD (xs.map Emb.d) = .ok (.own ((sort3 xs).map Emb.d))
  cases xs with
  | nil =>
    simp [sortD, intsOf, sort3, listI]
  | cons x xs =>
    have e : intsOf ((x :: xs).map (Emb.d : T3 Int Int Int → D)) = none := rfl
    have e2 : pairsOf ((x :: xs).map (Emb.d : T3 Int Int Int → D)) = none := rfl
    simp only [sortD, e, e2, tripsOf_map, sort3, List.map_map]
    rfl
def maxR : List Int → Res Int
  | [] => .bad
  | x :: xs => .ok (xs.foldl max x)
def minR : List Int → Res Int
  | [] => .bad
  | x :: xs => .ok (xs.foldl min x)
theorem y_maxL (xs : List Int) : Rl vV (b1 .max (Emb.d xs)) (maxR xs) := by
  show Rl vV (b1 .max (.lst (xs.map D.int))) (maxR xs)
  cases xs with
  | nil => trivial
  | cons x xs =>
    have e := intsOf_map (x :: xs)
    simp only [b1, e]
    rfl
theorem y_minL (xs : List Int) : Rl vV (b1 .min (Emb.d xs)) (minR xs) := by
  show Rl vV (b1 .min (.lst (xs.map D.int))) (minR xs)
  cases xs with
  | nil => trivial
  | cons x xs =>
    have e := intsOf_map (x :: xs)
    simp only [b1, e]
    rfl
theorem y_trL (xs : List α) : Rl idB (truth (Emb.d xs)) (.ok (!xs.isEmpty)) := by
  show truth (.lst (xs.map Emb.d)) = _
  cases xs <;> rfl
theorem y_trB (b : Bool) : Rl idB (truth (Emb.d b)) (.ok b) := rfl
theorem y_trI (i : Int) : Rl idB (truth (Emb.d i)) (.ok (decide (i ≠ 0))) := by
  show truth (.int i) = _
  simp only [truth]
  congr 1
  rw [Bool.eq_iff_iff]
  simp
@[irreducible] def trS (x : Str) : Res Bool := if x.length ≤ SL then .ok ((x.length : Int) != 0) else .bad
theorem y_trS (x : Str) : Rl idB (truth (Emb.d x)) (trS x) := by unfold trS; exact rl_id rfl
/-! ### texts -/
@[irreducible] def appS (a b : Str) : Res Str := if a.length + b.length ≤ SL then .ok (a ++ b) else .bad
theorem y_appS (a b : Str) : Rl vV (bin .add (Emb.d a) (Emb.d b)) (appS a b) := by
  unfold appS
  refine rl_if fun h => ?_
  show bin .add (.str a) (.str b) = _
  simp only [bin, h, if_true]
  rfl
@[irreducible] def intS (x : Str) : Res Int := match PySem.intText? x with
    | some n => if x.length ≤ 640 then .ok n else .bad
    | none => .bad
theorem y_intS (x : Str) : Rl vV (b1 .int (Emb.d x)) (intS x) := by
  show Rl vV (b1 .int (.str x)) (intS x)
  unfold intS
  simp only [b1]
  cases PySem.intText? x with
  | none => trivial
  | some n => exact rl_if fun h => by simp only [if_pos h]; rfl
theorem y_intB (b : Bool) : Rl vV (b1 .int (Emb.d b)) (.ok (if b = true then 1 else 0 : Int)) := by cases b <;> rfl
@[irreducible] def strI (i : Int) : Res Str := if i.natAbs.log2 < 1920 then .ok (toString i : Str) else .bad
theorem y_strI (i : Int) : Rl vV (b1 .str (Emb.d i)) (strI i) := by
  unfold strI
  refine rl_if fun h => ?_
  show b1 .str (.int i) = _
  simp only [b1, h, if_true]
  rfl
@[irreducible] def joinR (x : Str) (ys : List Str) : Res Str := if (ys.map (·.length)).sum + ys.length * x.length ≤ SL then .ok (PySem.Txt.join x ys) else .bad
theorem y_join (x : Str) (ys : List Str) : Rl vV (m1 .join x (Emb.d ys)) (joinR x ys) := by
  unfold joinR
  refine rl_if fun h => ?_
  show m1 .join x (.lst (ys.map D.str)) = _
  simp only [m1, strsOf_map, h, if_true]
  rfl
@[irreducible] def splitR (x y : Str) : Res (List Str) := if (y.length == 0) = false ∧ x.length + 2 ≤ SL then .ok (PySem.Txt.split x y) else .bad
theorem y_split (x y : Str) : Rl vO (m1 .split x (Emb.d y)) (splitR x y) := by
  unfold splitR
  refine rl_if fun h => ?_
  show m1 .split x (.str y) = _
  simp only [m1]
  rw [if_pos h]
  rfl
@[irreducible] def partR (x y : Str) : Res (T3 Str Str Str) := if (y.length == 0) = false ∧ x.length ≤ SL then .ok ⟨(PySem.Txt.partition x y).1, (PySem.Txt.partition x y).2.1, (PySem.Txt.partition x y).2.2⟩ else .bad
theorem y_part (x y : Str) : Rl vV (m1 .part x (Emb.d y)) (partR x y) := by
  unfold partR
  refine rl_if fun h => ?_
  show m1 .part x (.str y) = _
  simp only [m1]
  rw [if_pos h]
  rfl
@[irreducible] def rmpR (x y : Str) : Res Str := if x.length ≤ SL then .ok (PySem.Txt.removeprefix x y) else .bad
theorem y_rmp (x y : Str) : Rl vV (m1 .rmpre x (Emb.d y)) (rmpR x y) := by
  unfold rmpR
  refine rl_if fun h => ?_
  show m1 .rmpre x (.str y) = _
  simp only [m1]
  rw [if_pos h]
  rfl
@[irreducible] def zfR (x : Str) (i : Int) : Res Str := if PySem.PadOk i = true then .ok (PySem.Txt.zfill x i) else .bad
theorem y_zf (x : Str) (i : Int) : Rl vV (m1 .zfill x (Emb.d i)) (zfR x i) := by
  unfold zfR
  refine rl_if fun h => ?_
  show m1 .zfill x (.int i) = _
  simp only [m1]
  rw [if_pos h]
  rfl
theorem y_ends (x y : Str) : Rl vV (m1 .ends x (Emb.d y)) (.ok (PySem.Txt.endswith x y)) := rfl
theorem y_count (x y : Str) : Rl vV (m1 .count x (Emb.d y)) (.ok (PySem.Txt.count x y : Int)) := rfl
def chrs (x : Str) : List Str := x.cps.toList.map fun c => ⟨#[c]⟩
@[irreducible] def fmtS (y : Str) : Res Str := if y.length ≤ SL then .ok y else .bad
theorem y_fmtS (y : Str) : Rl vV (fmtV (vV y)) (fmtS y) := by
  unfold fmtS
  refine rl_if fun h => ?_
  show fmtV (.val (.str y)) = _
  simp only [fmtV, h, if_true]
  rfl
theorem y_fmtI (i : Int) : Rl vV (fmtV (vV i)) (strI i) := by
  unfold strI
  refine rl_if fun h => ?_
  show fmtV (.val (.int i)) = _
  simp only [fmtV, h, if_true]
  rfl
def catR : List (Res Str) → Str → Res Str
  | [], acc => .ok acc
  | r :: rs, acc => r.bind fun y => if (acc ++ y).length ≤ SL then catR rs (acc ++ y) else .bad
theorem js_nil {c : Ctx} {env : Env} {acc : Str} : Rl vV (js c [] acc env) (catR [] acc) := by rw [js]; rfl
theorem js_cons {c : Ctx} {env : Env} {acc : Str} {e : E} {es : List E} {r : Res Str} {rs : List (Res Str)} (h : Rl vV (ev c e env) r) (h2 : ∀ acc, Rl vV (js c es acc env) (catR rs acc)) : Rl vV (js c (e :: es) acc env) (catR (r :: rs) acc) := by
  rw [js, catR]
  refine bM h fun y => ?_
  refine rl_if fun q => ?_
  show Rl vV (jsStep acc (.val (.str y)) _) _
  simp only [jsStep]
  rw [if_pos q]
  exact h2 _
end
end PL

set_option linter.all false
set_option Elab.async false
set_option maxRecDepth 100000
set_option maxHeartbeats 1000000
/-! The typed layer: sources, comprehensions, statements, calls. -/
namespace PL
open PySem (Str)
/-! ### sources -/
def rng (a b : Int) : List Int := daysFrom a (b - a).toNat
@[irreducible] def rngR (a b : Int) : Res (List Int) := if inR a && inR b then .ok (rng a b) else .bad
@[irreducible] def rngC (a b k : Int) : Res (List Int) := if inR a && (inR b && decide (0 < k ∧ k < 1073741824)) then .ok ((List.range (rangeN a b k)).map fun (j : Nat) => a + (j : Int) * k) else .bad
@[irreducible] def lrgR (n : Int) : Res (List Int) := if inR n && decide (n ≤ SL) then .ok (rng 0 n) else .bad
abbrev mD {α : Type} [Emb α] (xs : List α) : List D := xs.map Emb.d
section
variable {α β γ δ : Type} [Emb α] {c : Ctx} {env : Env} {e e1 e2 : E} {r : Res α} {W : γ → δ} {s : Res γ}
theorem rl_rng (a b : Int) : Rl mD (if inR a && inR b then .ok (rangeD a b) else .bad : Res (List D)) (rngR a b) := by
  unfold rngR
  refine rl_if fun h => ?_
  rw [if_pos h, rangeD_from]
  rfl
theorem asI (j : Int) : asInt (vV j) = .ok j := rfl
theorem I_r1 (j : Int) (h : Rl vV (ev c e env) (.ok j)) : Rl mD (its c (.r1 e) env) (rngR 0 j) := by
  rw [its, h.eq]
  show Rl mD (if inR j = true then .ok (rangeD 0 j) else .bad) _
  have z : inR 0 = true := inR_s (by omega) (by omega)
  have := rl_rng 0 j
  rw [z, Bool.true_and] at this
  exact this
theorem I_r1M {rj : Res Int} (h : Rl vV (ev c e env) rj) : Rl mD (its c (.r1 e) env) (rj.bind fun j => rngR 0 j) := by
  cases rj with
  | ok j => exact I_r1 j h
  | err k fs => have h : ev c e env = .err k fs := h; rw [its, h]; rfl
  | bad => trivial
theorem I_r2 (i j : Int) (h1 : Rl vV (ev c e1 env) (.ok i)) (h2 : Rl vV (ev c e2 env) (.ok j)) : Rl mD (its c (.r2 e1 e2) env) (rngR i j) := by
  rw [its, h1.eq, Res.bind_ok, asI, Res.bind_ok, h2.eq, Res.bind_ok, asI, Res.bind_ok]
  exact rl_rng i j
theorem I_r2M {ri rj : Res Int} (h1 : Rl vV (ev c e1 env) ri) (h2 : Rl vV (ev c e2 env) rj) : Rl mD (its c (.r2 e1 e2) env) (ri.bind fun i => rj.bind fun j => rngR i j) := by
  cases ri with
  | ok i => cases rj with
    | ok j => exact I_r2 i j h1 h2
    | err k fs => have h2 : ev c e2 env = .err k fs := h2; rw [its, h1.eq, Res.bind_ok, asI, Res.bind_ok, h2]; rfl
    | bad => trivial
  | err k fs => have h1 : ev c e1 env = .err k fs := h1; rw [its, h1]; rfl
  | bad => trivial
theorem I_r3 (i j k : Int) {e3 : E} (h1 : Rl vV (ev c e1 env) (.ok i)) (h2 : Rl vV (ev c e2 env) (.ok j)) (h3 : Rl vV (ev c e3 env) (.ok k)) : Rl mD (its c (.r3 e1 e2 e3) env) (rngC i j k) := by
  rw [its, h1.eq, Res.bind_ok, asI, Res.bind_ok, h2.eq, Res.bind_ok, asI, Res.bind_ok, h3.eq, Res.bind_ok, asI, Res.bind_ok]
  unfold rngC
  refine rl_if fun h => ?_
  rw [if_pos h]
  show _ = Res.ok (List.map _ _)
  unfold rangeC
  rw [List.map_map]
  rfl
theorem I_r3M {ri rj rk : Res Int} {e3 : E} (h1 : Rl vV (ev c e1 env) ri) (h2 : Rl vV (ev c e2 env) rj) (h3 : Rl vV (ev c e3 env) rk) : Rl mD (its c (.r3 e1 e2 e3) env) (ri.bind fun i => rj.bind fun j => rk.bind fun k => rngC i j k) := by
  cases ri with
  | ok i => cases rj with
    | ok j => cases rk with
      | ok k => exact I_r3 i j k h1 h2 h3
      | err k fs => have h3 : ev c e3 env = .err k fs := h3; rw [its, h1.eq, Res.bind_ok, asI, Res.bind_ok, h2.eq, Res.bind_ok, asI, Res.bind_ok, h3]; rfl
      | bad => trivial
    | err k fs => have h2 : ev c e2 env = .err k fs := h2; rw [its, h1.eq, Res.bind_ok, asI, Res.bind_ok, h2]; rfl
    | bad => trivial
  | err k fs => have h1 : ev c e1 env = .err k fs := h1; rw [its, h1]; rfl
  | bad => trivial
theorem I_rr (i j : Int) (h1 : Rl vV (ev c e1 env) (.ok i)) (h2 : Rl vV (ev c e2 env) (.ok j)) : Rl mD (its c (.revr e1 e2) env) ((rngR i j).bind fun xs => .ok xs.reverse) := by
  rw [its, h1.eq, Res.bind_ok, asI, Res.bind_ok, h2.eq, Res.bind_ok, asI, Res.bind_ok]
  unfold rngR
  by_cases h : (inR i && inR j) = true
  · rw [if_pos h, if_pos h, rangeD_from]
    show _ = Res.ok (List.map _ _)
    rw [List.map_reverse]
    rfl
  · rw [if_neg h, if_neg h]
    trivial
theorem I_sq {o : O} (x : List α) (h : Rl toD (po c o env) (.ok x)) : Rl mD (its c (.sq o) env) (.ok x) := by
  rw [its, h.eq]
  rfl
theorem I_sqM {o : O} {rx : Res (List α)} (h : Rl toD (po c o env) rx) : Rl mD (its c (.sq o) env) rx := by
  cases rx with
  | ok x => exact I_sq x h
  | err k fs => have h : po c o env = .err k fs := h; rw [its, h]; rfl
  | bad => trivial
theorem I_sqS {o : O} (x : Str) (h : Rl toD (po c o env) (.ok x)) : Rl mD (its c (.sq o) env) (.ok (chrs x)) := by
  rw [its, h.eq]
  show _ = Res.ok (List.map _ _)
  unfold chrs
  rw [List.map_map]
  rfl
theorem I_sqT {o : O} {τ : Type} [Emb τ] (t : τ) (x : List α) (h : Rl toD (po c o env) (.ok t)) (h2 : toD t = .tup (mD x)) : Rl mD (its c (.sq o) env) (.ok x) := by
  rw [its, h.eq, h2]
  rfl
theorem I_sqTM {o : O} {τ : Type} [Emb τ] {rt : Res τ} (g : τ → List α) (h : Rl toD (po c o env) rt) (h2 : ∀ t, toD t = .tup (mD (g t))) : Rl mD (its c (.sq o) env) (rt.bind fun t => .ok (g t)) := by
  cases rt with
  | ok t => exact I_sqT t (g t) h (h2 t)
  | err k fs => have h : po c o env = .err k fs := h; rw [its, h]; rfl
  | bad => trivial
theorem I_rev {o : O} (x : List α) (h : Rl toD (po c o env) (.ok x)) : Rl mD (its c (.rev o) env) (.ok x.reverse) := by
  rw [its, h.eq]
  show _ = Res.ok (List.map _ _)
  rw [List.map_reverse]
  rfl
theorem I_revM {o : O} {rx : Res (List α)} (h : Rl toD (po c o env) rx) : Rl mD (its c (.rev o) env) (rx.bind fun x => .ok x.reverse) := by
  cases rx with
  | ok x => exact I_rev x h
  | err k fs => have h : po c o env = .err k fs := h; rw [its, h]; rfl
  | bad => trivial
/-! a for's -/
theorem F_r1 (j : Int) (h : Rl vV (ev c e env) (.ok j)) : Rl mD (itsF c (.r1 e) env) (rngR 0 j) := I_r1 j h
theorem F_r1M {rj : Res Int} (h : Rl vV (ev c e env) rj) : Rl mD (itsF c (.r1 e) env) (rj.bind fun j => rngR 0 j) := I_r1M h
theorem F_r2 (i j : Int) (h1 : Rl vV (ev c e1 env) (.ok i)) (h2 : Rl vV (ev c e2 env) (.ok j)) : Rl mD (itsF c (.r2 e1 e2) env) (rngR i j) := I_r2 i j h1 h2
theorem F_r2M {ri rj : Res Int} (h1 : Rl vV (ev c e1 env) ri) (h2 : Rl vV (ev c e2 env) rj) : Rl mD (itsF c (.r2 e1 e2) env) (ri.bind fun i => rj.bind fun j => rngR i j) := I_r2M h1 h2
theorem F_r3 (i j k : Int) {e3 : E} (h1 : Rl vV (ev c e1 env) (.ok i)) (h2 : Rl vV (ev c e2 env) (.ok j)) (h3 : Rl vV (ev c e3 env) (.ok k)) : Rl mD (itsF c (.r3 e1 e2 e3) env) (rngC i j k) := I_r3 i j k h1 h2 h3
theorem F_rr (i j : Int) (h1 : Rl vV (ev c e1 env) (.ok i)) (h2 : Rl vV (ev c e2 env) (.ok j)) : Rl mD (itsF c (.revr e1 e2) env) ((rngR i j).bind fun xs => .ok xs.reverse) := I_rr i j h1 h2
theorem F_sq (x : List α) (h : Rl toD (po c (.e e) env) (.ok x)) : Rl mD (itsF c (.sq (.e e)) env) (.ok x) := I_sq x h
theorem F_sqM {rx : Res (List α)} (h : Rl toD (po c (.e e) env) rx) : Rl mD (itsF c (.sq (.e e)) env) rx := I_sqM h
theorem F_sqS (x : Str) (h : Rl toD (po c (.e e) env) (.ok x)) : Rl mD (itsF c (.sq (.e e)) env) (.ok (chrs x)) := I_sqS x h
theorem F_sqT {τ : Type} [Emb τ] (t : τ) (x : List α) (h : Rl toD (po c (.e e) env) (.ok t)) (h2 : toD t = .tup (mD x)) : Rl mD (itsF c (.sq (.e e)) env) (.ok x) := I_sqT t x h h2
theorem F_sqTM {τ : Type} [Emb τ] {rt : Res τ} (g : τ → List α) (h : Rl toD (po c (.e e) env) rt) (h2 : ∀ t, toD t = .tup (mD (g t))) : Rl mD (itsF c (.sq (.e e)) env) (rt.bind fun t => .ok (g t)) := I_sqTM g h h2
theorem F_r3M {ri rj rk : Res Int} {e3 : E} (h1 : Rl vV (ev c e1 env) ri) (h2 : Rl vV (ev c e2 env) rj) (h3 : Rl vV (ev c e3 env) rk) : Rl mD (itsF c (.r3 e1 e2 e3) env) (ri.bind fun i => rj.bind fun j => rk.bind fun k => rngC i j k) := I_r3M h1 h2 h3
theorem F_rev (x : List α) (h : Rl toD (po c (.e e) env) (.ok x)) : Rl mD (itsF c (.rev (.e e)) env) (.ok x.reverse) := I_rev x h
theorem F_revM {rx : Res (List α)} (h : Rl toD (po c (.e e) env) rx) : Rl mD (itsF c (.rev (.e e)) env) (rx.bind fun x => .ok x.reverse) := I_revM h
theorem F_sV {i : Nat} (x : List α) (h : env[i]? = some (sV x)) : Rl mD (itsF c (.sq (.s i)) env) (.ok x) := by
  unfold itsF
  simp only [h]
  rfl
theorem F_sS {i : Nat} (x : Str) (h : env[i]? = some (sV x)) : Rl mD (itsF c (.sq (.s i)) env) (.ok (chrs x)) := by
  unfold itsF
  simp only [h]
  show _ = Res.ok (List.map _ _)
  unfold chrs
  rw [List.map_map]
  rfl
theorem F_sP {i : Nat} (x : List α) (h : env[i]? = some (sP x)) : Rl mD (itsF c (.sq (.s i)) env) (.ok x) := by
  unfold itsF
  simp only [h]
  rfl
theorem F_sT {i : Nat} {τ : Type} [Emb τ] (t : τ) (x : List α) (h : env[i]? = some (sV t)) (h2 : toD t = .tup (mD x)) : Rl mD (itsF c (.sq (.s i)) env) (.ok x) := by
  unfold itsF
  have h : env[i]? = some (.val (toD t)) := h
  rw [h2] at h
  simp only [h]
  rfl
theorem F_rV {i : Nat} (x : List α) (h : env[i]? = some (sV x)) : Rl mD (itsF c (.rev (.s i)) env) (.ok x.reverse) := by
  unfold itsF
  simp only [h]
  show Res.ok (List.map _ _).reverse = Res.ok (List.map _ _)
  rw [List.map_reverse]
theorem F_rP {i : Nat} (x : List α) (h : env[i]? = some (sP x)) : Rl mD (itsF c (.rev (.s i)) env) (.ok x.reverse) := by
  unfold itsF
  simp only [h]
  show Res.ok (List.map _ _).reverse = Res.ok (List.map _ _)
  rw [List.map_reverse]
theorem E_fzO {α : Type} [Emb α] {r : Res (List α)} (h : Rl vO (ev c e env) r) : Rl vV (ev c (.fz e) env) r := by
  rw [ev]
  cases r with
  | ok x => rw [h.eq]; rfl
  | err k fs => rw [show ev c e env = .err k fs from h]; rfl
  | bad => trivial
theorem E_fzV {α : Type} [Emb α] {r : Res α} (h : Rl vV (ev c e env) r) : Rl vV (ev c (.fz e) env) r := by
  rw [ev]
  cases r with
  | ok x => rw [h.eq]; rfl
  | err k fs => rw [show ev c e env = .err k fs from h]; rfl
  | bad => trivial
theorem E_lrg (j : Int) (h : Rl vV (ev c e env) (.ok j)) : Rl vO (ev c (.lrg e) env) (lrgR j) := by
  rw [ev, h.eq, Res.bind_ok, asI, Res.bind_ok]
  unfold lrgR
  refine rl_if fun h => ?_
  rw [if_pos h, rangeD_from]
  rfl
theorem E_lrgM {rj : Res Int} (h : Rl vV (ev c e env) rj) : Rl vO (ev c (.lrg e) env) (rj.bind lrgR) := by
  cases rj with
  | ok j => exact E_lrg j h
  | err k fs => have h : ev c e env = .err k fs := h; rw [ev, h]; rfl
  | bad => trivial
end
/-! ### comprehensions -/
@[irreducible] def compP {α β : Type} (f : α → β) (xs : List α) : Res (List β) := if xs.length ≤ SL then .ok (xs.map f) else .bad
@[irreducible] def compF {α β : Type} (p : α → Bool) (f : α → β) (xs : List α) : Res (List β) := if xs.length ≤ SL then .ok ((xs.filter p).map f) else .bad
def mapR {α β : Type} (f : α → Res β) : List α → Res (List β)
  | [] => .ok []
  | x :: xs => match f x with
    | .ok y => (mapR f xs).bind fun ys => .ok (y :: ys)
    | _ => .bad
def filR {α β : Type} (p : α → Res Bool) (f : α → Res β) : List α → Res (List β)
  | [] => .ok []
  | x :: xs => match p x with
    | .ok true => (match f x with
      | .ok y => (filR p f xs).bind fun ys => .ok (y :: ys)
      | _ => .bad)
    | .ok false => filR p f xs
    | _ => .bad
@[irreducible] def compM {α β : Type} (f : α → Res β) (xs : List α) : Res (List β) := if xs.length ≤ SL then mapR f xs else .bad
@[irreducible] def compG {α β : Type} (p : α → Res Bool) (f : α → Res β) (xs : List α) : Res (List β) := if xs.length ≤ SL then filR p f xs else .bad
section
variable {α β : Type} [Emb α] [Emb β] {c : Ctx} {env : Env} {tg : Tg} {it : It} {el : E} {own : List Nat} {t : T}
theorem comp_len {turn : D → Res (Option D)} {f : D → Res (Option D)} : ∀ (ds acc : List D), (∀ d, turn d = f d) → compLoop turn ds acc = compLoop f ds acc := fun ds acc h => by
  have : turn = f := funext h
  rw [this]
theorem comp_rl {turn : D → Res (Option D)} {p : α → Res Bool} {f : α → Res β} (h : ∀ x b, p x = .ok b → (b = false → turn (Emb.d x) = .ok none) ∧ (b = true → ∀ y, f x = .ok y → turn (Emb.d x) = .ok (some (Emb.d y)))) : ∀ (xs : List α) (acc : List D) (ys : List β), filR p f xs = .ok ys → acc.length + xs.length ≤ SL → compLoop turn (mD xs) acc = .ok (.own (acc ++ mD ys))
  | [], acc, ys, h', _ => by
    cases h'
    simp [compLoop, mD]
  | x :: xs, acc, ys, h', hl => by
    rw [List.length_cons] at hl
    have hz : acc.length < SL := by omega
    unfold filR at h'
    show compLoop turn (Emb.d x :: mD xs) acc = _
    cases q : p x with
    | bad => rw [q] at h'; cases h'
    | err k fs => rw [q] at h'; cases h'
    | ok b =>
      rw [q] at h'
      obtain ⟨h1, h2⟩ := h x b q
      cases b with
      | false =>
        simp only [compLoop, h1 rfl]
        exact comp_rl h xs acc ys h' (by omega)
      | true =>
        simp only at h'
        cases w : f x with
        | bad => rw [w] at h'; cases h'
        | err k fs => rw [w] at h'; cases h'
        | ok y =>
          rw [w] at h'
          simp only at h'
          simp only [compLoop, h2 rfl y w]
          rw [if_pos hz]
          cases v : filR p f xs with
          | bad => rw [v] at h'; cases h'
          | err k fs => rw [v] at h'; cases h'
          | ok zs =>
            rw [v] at h'
            cases h'
            rw [comp_rl h xs (acc ++ [Emb.d y]) zs v (by rw [List.length_append, List.length_singleton]; omega)]
            simp [mD]
theorem filR_map (f : α → Res β) : ∀ xs : List α, filR (fun _ => .ok true) f xs = mapR f xs
  | [] => rfl
  | x :: xs => by
    unfold filR mapR
    simp only
    rw [filR_map f xs]
theorem mapR_P (f : α → β) : ∀ xs : List α, mapR (fun x => .ok (f x)) xs = .ok (xs.map f)
  | [] => rfl
  | x :: xs => by
    unfold mapR
    rw [mapR_P f xs]
    rfl
theorem filR_P (p : α → Bool) (f : α → β) : ∀ xs : List α, filR (fun x => .ok (p x)) (fun x => .ok (f x)) xs = .ok ((xs.filter p).map f)
  | [] => rfl
  | x :: xs => by
    unfold filR
    rw [filR_P p f xs]
    cases h : p x <;> simp [List.filter_cons, h]
theorem filR_noerr {p : α → Res Bool} {f : α → Res β} {k : Nat} {fs : List D} : ∀ xs : List α, filR p f xs ≠ .err k fs
  | [] => by unfold filR; intro h; cases h
  | x :: xs => by
    unfold filR
    have ih := filR_noerr (p := p) (f := f) (k := k) (fs := fs) xs
    cases p x with
    | bad => intro h; cases h
    | err k fs => intro h; cases h
    | ok b => cases b with
      | false => exact ih
      | true => cases f x with
        | bad => intro h; cases h
        | err k fs => intro h; cases h
        | ok y =>
          simp only
          cases q : filR p f xs with
          | bad => intro h; cases h
          | ok z => intro h; cases h
          | err k' fs' => intro h; rw [q] at ih; cases h; exact ih rfl
/-- a comprehension -/
theorem E_compG {rx : Res (List α)} {p : α → Res Bool} {f : α → Res β} {V : β → Vl} {cs : List T} (hV : ∀ y, (V y).d = toD y) (hi : Rl mD (its c it env) rx) (e1 : α → Env) (ht : ∀ x, setT tg (toD x) (wipeE env own) = some (e1 x)) (hc : ∀ x, Rl idB (tvs c cs (e1 x)) (p x)) (he : ∀ x, Rl V (ev c el (e1 x)) (f x)) :
    Rl vO (ev c (.comp tg it cs el own) env) (rx.bind fun xs => compG p f xs) := by
  cases rx with
  | bad => trivial
  | err k fs => have hi : its c it env = .err k fs := hi; rw [ev, hi]; rfl
  | ok xs =>
    rw [ev, hi.eq]
    show Rl vO _ (compG p f xs)
    unfold compG
    refine rl_if fun hl => ?_
    cases q : filR p f xs with
    | bad => trivial
    | err k fs => exact absurd q (filR_noerr xs)
    | ok ys =>
      have := comp_rl (turn := fun d => match setT tg d (wipeE env own) with
        | none => .bad
        | some e1 => (tvs c cs e1).bind fun k => if k = true then (ev c el e1).bind fun x => .ok (some x.d) else .ok none) (p := p) (f := f) (fun x b hb => by
        have a := hc x
        rw [hb] at a
        have a := a.eq
        refine ⟨fun hb0 => ?_, fun hb1 y hy => ?_⟩
        · simp only [ht x, a, hb0, Res.bind_ok]; rfl
        · have g := he x
          rw [hy] at g
          have g := g.eq
          simp only [ht x, a, hb1, Res.bind_ok, if_true, g, hV y]) xs [] ys q (by simp only [List.length_nil]; omega)
      exact this
theorem E_compM {rx : Res (List α)} {f : α → Res β} {V : β → Vl} (hV : ∀ y, (V y).d = toD y) (hi : Rl mD (its c it env) rx) (e1 : α → Env) (ht : ∀ x, setT tg (toD x) (wipeE env own) = some (e1 x)) (he : ∀ x, Rl V (ev c el (e1 x)) (f x)) :
    Rl vO (ev c (.comp tg it [] el own) env) (rx.bind fun xs => compM f xs) := by
  have := E_compG (p := fun _ => .ok true) hV hi e1 ht (cs := []) (fun x => by rw [tvs]; rfl) he
  simpa only [compG, compM, filR_map] using this
theorem E_compP {rx : Res (List α)} {f : α → β} {V : β → Vl} (hV : ∀ y, (V y).d = toD y) (hi : Rl mD (its c it env) rx) (e1 : α → Env) (ht : ∀ x, setT tg (toD x) (wipeE env own) = some (e1 x)) (he : ∀ x, Rl V (ev c el (e1 x)) (.ok (f x))) :
    Rl vO (ev c (.comp tg it [] el own) env) (rx.bind fun xs => compP f xs) := by
  have := E_compM (f := fun x => .ok (f x)) hV hi e1 ht he
  simpa only [compM, compP, mapR_P] using this
theorem E_compF {rx : Res (List α)} {p : α → Bool} {f : α → β} {V : β → Vl} (hV : ∀ y, (V y).d = toD y) (hi : Rl mD (its c it env) rx) (e1 : α → Env) (ht : ∀ x, setT tg (toD x) (wipeE env own) = some (e1 x)) (hc : ∀ x, Rl idB (tv c t (e1 x)) (.ok (p x))) (he : ∀ x, Rl V (ev c el (e1 x)) (.ok (f x))) :
    Rl vO (ev c (.comp tg it [t] el own) env) (rx.bind fun xs => compF p f xs) := by
  have := E_compG (p := fun x => .ok (p x)) (f := fun x => .ok (f x)) hV hi e1 ht (cs := [t]) (fun x => by rw [tvs]; exact hc x) he
  simpa only [compG, compF, filR_P] using this
theorem E_compT {rx : Res (List α)} {p : α → Res Bool} {f : α → Res β} {V : β → Vl} (hV : ∀ y, (V y).d = toD y) (hi : Rl mD (its c it env) rx) (e1 : α → Env) (ht : ∀ x, setT tg (toD x) (wipeE env own) = some (e1 x)) (hc : ∀ x, Rl idB (tv c t (e1 x)) (p x)) (he : ∀ x, Rl V (ev c el (e1 x)) (f x)) :
    Rl vO (ev c (.comp tg it [t] el own) env) (rx.bind fun xs => compG p f xs) := E_compG hV hi e1 ht (cs := [t]) (fun x => by rw [tvs]; exact hc x) he
end
/-! ### what a statement comes to -/
inductive Fl (ρ σ : Type) where
  | nx (s : σ) | ret (r : ρ) | err (c : Nat) (fs : List D) | bad
section
variable {α β ρ σ τ : Type}
def Fl.bind (f : Fl ρ σ) (k : σ → Fl ρ τ) : Fl ρ τ := match f with
  | .nx s => k s
  | .ret r => .ret r
  | .err c fs => .err c fs
  | .bad => .bad
def _root_.PL.Res.fl (r : Res α) (k : α → Fl ρ σ) : Fl ρ σ := match r with
  | .ok a => k a
  | .err c fs => .err c fs
  | .bad => .bad
@[simp] theorem Fl.bind_nx (s : σ) (k : σ → Fl ρ τ) : (Fl.nx s : Fl ρ σ).bind k = k s := rfl
@[simp] theorem Fl.bind_ret (r : ρ) (k : σ → Fl ρ τ) : (Fl.ret r : Fl ρ σ).bind k = .ret r := rfl
@[simp] theorem Fl.bind_err (c : Nat) (fs : List D) (k : σ → Fl ρ τ) : (Fl.err c fs : Fl ρ σ).bind k = .err c fs := rfl
@[simp] theorem Fl.bind_bad (k : σ → Fl ρ τ) : (Fl.bad : Fl ρ σ).bind k = .bad := rfl
@[simp] theorem Res.fl_ok (a : α) (k : α → Fl ρ σ) : (Res.ok a).fl k = k a := rfl
@[simp] theorem Res.fl_err (c : Nat) (fs : List D) (k : α → Fl ρ σ) : (Res.err c fs : Res α).fl k = .err c fs := rfl
@[simp] theorem Res.fl_bad (k : α → Fl ρ σ) : (Res.bad : Res α).fl k = .bad := rfl
def forF (body : α → σ → Fl ρ σ) : List α → σ → Fl ρ σ
  | [], s => .nx s
  | x :: xs, s => (body x s).bind (forF body xs)
@[simp] theorem forF_nil (body : α → σ → Fl ρ σ) (s : σ) : forF body [] s = .nx s := rfl
theorem forF_cons (body : α → σ → Fl ρ σ) (x : α) (xs : List α) (s : σ) : forF body (x :: xs) s = (body x s).bind (forF body xs) := rfl
def whlF (test : σ → Res Bool) (body : σ → Fl ρ σ) : Nat → σ → Fl ρ σ
  | 0, _ => .bad
  | n + 1, s => (test s).fl fun b => if b = true then (body s).bind (whlF test body n) else .nx s
def tryF (f : Fl ρ σ) (h : Nat → List D → Fl ρ σ) : Fl ρ σ := match f with
  | .err k fs => (match h k fs with
    | .err _ _ => .bad
    | g => g)
  | f => f
def Fl.run (f : Fl ρ σ) : Res ρ := match f with
  | .ret r => .ok r
  | .err c fs => .err c fs
  | _ => .bad
/-- a def that ends without return -/
def Fl.runN (n : ρ) (f : Fl ρ σ) : Res ρ := match f with
  | .nx _ => .ok n
  | .ret r => .ok r
  | .err c fs => .err c fs
  | .bad => .bad
/-- what is made -/
def Fl.mk (g : σ → α) (f : Fl Unit σ) : Res α := match f with
  | .nx s => .ok (g s)
  | .err c fs => .err c fs
  | _ => .bad
@[simp] theorem Fl.run_ret (r : ρ) : (Fl.ret r : Fl ρ σ).run = .ok r := rfl
@[simp] theorem Fl.run_err (c : Nat) (fs : List D) : (Fl.err c fs : Fl ρ σ).run = .err c fs := rfl
@[simp] theorem Fl.run_bad : (Fl.bad : Fl ρ σ).run = .bad := rfl
@[simp] theorem Fl.runN_nx (n : ρ) (s : σ) : (Fl.nx s : Fl ρ σ).runN n = .ok n := rfl
@[simp] theorem Fl.runN_ret (n r : ρ) : (Fl.ret r : Fl ρ σ).runN n = .ok r := rfl
@[simp] theorem Fl.runN_err (n : ρ) (c : Nat) (fs : List D) : (Fl.err c fs : Fl ρ σ).runN n = .err c fs := rfl
@[simp] theorem Fl.mk_nx (g : σ → α) (s : σ) : (Fl.nx s : Fl Unit σ).mk g = .ok (g s) := rfl
@[simp] theorem Fl.mk_err (g : σ → α) (c : Nat) (fs : List D) : (Fl.err c fs : Fl Unit σ).mk g = .err c fs := rfl
@[simp] theorem tryF_nx (s : σ) (h : Nat → List D → Fl ρ σ) : tryF (.nx s) h = .nx s := rfl
@[simp] theorem tryF_ret (r : ρ) (h : Nat → List D → Fl ρ σ) : tryF (.ret r) h = .ret r := rfl
@[simp] theorem Fl.ite_nx {b : Prop} [Decidable b] (x y : σ) : (if b then Fl.nx x else Fl.nx y : Fl ρ σ) = .nx (if b then x else y) := by split <;> rfl
/-- modes: 0 goes on, 1 goes to the loop's next turn, 2 one of these, 3 neither -/
def go (j : Nat) (o : Out) (e : Env) : Prop := match j with
  | 0 => o = .nx e
  | 1 => o = .ct e
  | 2 => o = .nx e ∨ o = .ct e
  | _ => False
/-- how an answer is given -/
def outOf : Rt → Out
  | .v x => .ret x
  | .dp o => .rtd o
@[simp] theorem outOf_seq (r : Rt) (f : Env → Out) : (outOf r).seq f = outOf r := by cases r <;> rfl
def Sim (j : Nat) (V : ρ → Rt) (P : σ → Env → Prop) (Q : Env → Prop) (o : Out) : Fl ρ σ → Prop
  | .nx s => ∃ e, go j o e ∧ P s e
  | .ret r => o = outOf (V r)
  | .err k fs => ∃ e, o = .err k fs e ∧ Q e
  | .bad => True
variable {V : ρ → Rt} {P : σ → Env → Prop} {Q : Env → Prop} {j : Nat} {c : Ctx} {env env1 env2 : Env} {fr : List Nat} {rest : List S} {W : α → Vl} {i : Nat} {e : E}
theorem M_nil0 {s : σ} (h : P s env) : Sim 0 V P Q (exss c [] env) (.nx s) := ⟨env, by simp only [exss]; rfl, h⟩
theorem M_nil2 {s : σ} (h : P s env) : Sim 2 V P Q (exss c [] env) (.nx s) := ⟨env, .inl (by simp only [exss]), h⟩
theorem M_cont1 {s : σ} (h : P s env) : Sim 1 V P Q (exss c (.cont :: rest) env) (.nx s) := ⟨env, by simp only [exss, exs, Out.seq_ct]; rfl, h⟩
theorem M_cont2 {s : σ} (h : P s env) : Sim 2 V P Q (exss c (.cont :: rest) env) (.nx s) := ⟨env, .inr (by simp only [exss, exs, Out.seq_ct]), h⟩
theorem M_pass {f : Fl ρ σ} (h : Sim j V P Q (exss c rest env) f) : Sim j V P Q (exss c (.pass :: rest) env) f := by
  simp only [exss, exs, Out.seq_nx]
  exact h
theorem M_asgP (x : α) {f : Fl ρ σ} (hf : frz fr env = env1) (he : Rl W (ev c e env1) (.ok x)) (hs : env1.set i (W x).sl = env2) (h : Sim j V P Q (exss c rest env2) f) : Sim j V P Q (exss c (.asg fr i e :: rest) env) f := by
  have e1 : exs c (.asg fr i e) env = .nx env2 := by simp only [exs, hf, he.eq, Res.to_ok, hs]
  rw [exss_nx e1]
  exact h
theorem M_asg {r : Res α} {k : α → Fl ρ σ} {env2 : α → Env} (hf : frz fr env = env1) (hq : Q env1) (he : Rl W (ev c e env1) r) (hs : ∀ x, env1.set i (W x).sl = env2 x) (h : ∀ x, Sim j V P Q (exss c rest (env2 x)) (k x)) : Sim j V P Q (exss c (.asg fr i e :: rest) env) (r.fl k) := by
  cases r with
  | ok x => exact M_asgP x hf he (hs x) (h x)
  | err k fs =>
    have he : ev c e env1 = .err k fs := he
    exact ⟨env1, by simp only [exss, exs, hf, he, Res.to_err, Out.seq_err], hq⟩
  | bad => trivial
theorem exss_th {s : S} {l : List Nat} : exss c (.th s l :: rest) env = exss c (s :: .fz l :: rest) env := by
  simp only [exss, exs]
  cases exs c s env <;> rfl
theorem M_th {l : List Nat} {s : S} {f : Fl ρ σ} (h : Sim j V P Q (exss c (s :: .fz l :: rest) env) f) : Sim j V P Q (exss c (.th s l :: rest) env) f := by rw [exss_th]; exact h
theorem M_fz {l : List Nat} {f : Fl ρ σ} (hf : frz l env = env1) (h : Sim j V P Q (exss c rest env1) f) : Sim j V P Q (exss c (.fz l :: rest) env) f := by
  have e1 : exs c (.fz l) env = .nx env1 := by rw [exs, hf]
  rw [exss_nx e1]
  exact h
theorem M_asgt {is : List Nat} {r : Res α} {k : α → Fl ρ σ} {env2 : α → Env} (hf : frz fr env = env1) (hq : Q env1) (he : Rl W (ev c e env1) r) (hs : ∀ x, setT (.t is) (W x).d env1 = some (env2 x)) (h : ∀ x, Sim j V P Q (exss c rest (env2 x)) (k x)) : Sim j V P Q (exss c (.asgt fr is e :: rest) env) (r.fl k) := by
  cases r with
  | ok x =>
    have e1 : exs c (.asgt fr is e) env = .nx (env2 x) := by simp only [exs, hf, he.eq, Res.to_ok, hs x]
    rw [exss_nx e1]
    exact h x
  | err k fs =>
    have he : ev c e env1 = .err k fs := he
    exact ⟨env1, by simp only [exss, exs, hf, he, Res.to_err, Out.seq_err], hq⟩
  | bad => trivial
theorem M_ex {r : Res α} {k : α → Fl ρ σ} (hf : frz fr env = env1) (hq : Q env1) (he : Rl W (ev c e env1) r) (h : ∀ x, Sim j V P Q (exss c rest env1) (k x)) : Sim j V P Q (exss c (.ex fr e :: rest) env) (r.fl k) := by
  cases r with
  | ok x =>
    have e1 : exs c (.ex fr e) env = .nx env1 := by simp only [exs, hf, he.eq, Res.to_ok]
    rw [exss_nx e1]
    exact h x
  | err k fs =>
    have he : ev c e env1 = .err k fs := he
    exact ⟨env1, by simp only [exss, exs, hf, he, Res.to_err, Out.seq_err], hq⟩
  | bad => trivial
theorem M_aug {x y : Int} {r : Res Int} {k : Int → Fl ρ σ} {env2 : Int → Env} (hx : env[i]? = some (sV x)) (hq : Q env) (he : Rl vV (ev c e env) r) (hs : ∀ y, env.set i (sV (x + y)) = env2 y) (h : ∀ y, Sim j V P Q (exss c rest (env2 y)) (k y)) : Sim j V P Q (exss c (.aug i .add e :: rest) env) (r.fl k) := by
  cases r with
  | ok y =>
    have hx : env[i]? = some (.val (.int x)) := hx
    have he' : ev c e env = .ok (.val (.int y)) := he.eq
    have hs : env.set i (.val (.int (x + y))) = env2 y := hs y
    have e1 : exs c (.aug i .add e) env = .nx (env2 y) := by simp only [exs, hx, he', Res.to_ok, hs]
    rw [exss_nx e1]
    exact h y
  | err k fs =>
    have he : ev c e env = .err k fs := he
    exact ⟨env, by simp only [exss, exs, hx, he, Res.to_err, Out.seq_err], hq⟩
  | bad => trivial
theorem M_augS {x y : Int} {r : Res Int} {k : Int → Fl ρ σ} {env2 : Int → Env} (hx : env[i]? = some (sV x)) (hq : Q env) (he : Rl vV (ev c e env) r) (hs : ∀ y, env.set i (sV (x - y)) = env2 y) (h : ∀ y, Sim j V P Q (exss c rest (env2 y)) (k y)) : Sim j V P Q (exss c (.aug i .sub e :: rest) env) (r.fl k) := by
  cases r with
  | ok y =>
    have hx : env[i]? = some (.val (.int x)) := hx
    have he' : ev c e env = .ok (.val (.int y)) := he.eq
    have hs : env.set i (.val (.int (x - y))) = env2 y := hs y
    have e1 : exs c (.aug i .sub e) env = .nx (env2 y) := by simp only [exs, hx, he', Res.to_ok, hs]
    rw [exss_nx e1]
    exact h y
  | err k fs =>
    have he : ev c e env = .err k fs := he
    exact ⟨env, by simp only [exss, exs, hx, he, Res.to_err, Out.seq_err], hq⟩
  | bad => trivial
@[irreducible] def appR (xs : List α) (x : α) : Res (List α) := if xs.length < SL then .ok (xs ++ [x]) else .bad
theorem M_app {β : Type} [Emb β] {W : β → Vl} (hW : ∀ y, (W y).d = toD y) {xs : List β} {r : Res β} {k : List β → Fl ρ σ} {env2 : List β → Env} (hf : frz fr env = env1) (hx : env1[i]? = some (sO xs)) (hq : Q env1) (he : Rl W (ev c e env1) r) (hs : ∀ ys, env1.set i (sO ys) = env2 ys) (h : ∀ ys, Sim j V P Q (exss c rest (env2 ys)) (k ys)) : Sim j V P Q (exss c (.app fr i e :: rest) env) (r.fl fun y => (appR xs y).fl k) := by
  cases r with
  | ok y =>
    show Sim j V P Q _ ((appR xs y).fl k)
    unfold appR
    by_cases q : xs.length < SL
    · rw [if_pos q]
      have q' : (xs.map Emb.d).length < SL := by rw [List.length_map]; exact q
      have hs : env1.set i (.own ((xs ++ [y]).map Emb.d)) = env2 (xs ++ [y]) := hs _
      rw [List.map_append] at hs
      have hs : env1.set i (.own (xs.map Emb.d ++ [(W y).d])) = env2 (xs ++ [y]) := by rw [hW]; exact hs
      have e1 : exs c (.app fr i e) env = .nx (env2 (xs ++ [y])) := by simp only [exs, hf, hx, he.eq, Res.to_ok, q', if_true, hs]
      rw [exss_nx e1]
      exact h _
    · rw [if_neg q]
      trivial
  | err k fs =>
    have he : ev c e env1 = .err k fs := he
    exact ⟨env1, by simp only [exss, exs, hf, hx, he, Res.to_err, Out.seq_err], hq⟩
  | bad => trivial
@[irreducible] def setR (xs : List α) (i : Int) (x : α) : Res (List α) := match ixNat xs.length i with
  | some j => .ok (xs.set j x)
  | none => .bad
theorem M_seti {β : Type} [Emb β] {W : β → Vl} (hW : ∀ y, (W y).d = toD y) {xs : List β} {ke : E} {r : Res β} {rk : Res Int} {k : List β → Fl ρ σ} {env2 : List β → Env} (hf : frz fr env = env1) (hx : env1[i]? = some (sO xs)) (hq : Q env1) (he : Rl W (ev c e env1) r) (hk : Rl vV (ev c ke env1) rk) (hs : ∀ ys, env1.set i (sO ys) = env2 ys) (h : ∀ ys, Sim j V P Q (exss c rest (env2 ys)) (k ys)) : Sim j V P Q (exss c (.seti fr i ke e :: rest) env) (r.fl fun y => rk.fl fun z => (setR xs z y).fl k) := by
  cases r with
  | ok y =>
    cases rk with
    | ok z =>
      show Sim j V P Q _ ((setR xs z y).fl k)
      unfold setR
      have hk' : ev c ke env1 = .ok (.val (.int z)) := hk.eq
      cases q : ixNat xs.length z with
      | none => trivial
      | some n =>
        have q' : ixNat (xs.map Emb.d).length z = some n := by rw [List.length_map]; exact q
        have hs : env1.set i (.own ((xs.set n y).map Emb.d)) = env2 (xs.set n y) := hs _
        rw [List.map_set] at hs
        have hs : env1.set i (.own ((xs.map Emb.d).set n (W y).d)) = env2 (xs.set n y) := by rw [hW]; exact hs
        have e1 : exs c (.seti fr i ke e) env = .nx (env2 (xs.set n y)) := by simp only [exs, hf, hx, he.eq, hk', Res.to_ok, q', hs]
        rw [exss_nx e1]
        exact h _
    | err k fs =>
      have hk : ev c ke env1 = .err k fs := hk
      exact ⟨env1, by simp only [exss, exs, hf, hx, he.eq, hk, Res.to_ok, Res.to_err, Out.seq_err], hq⟩
    | bad => trivial
  | err k fs =>
    have he : ev c e env1 = .err k fs := he
    exact ⟨env1, by simp only [exss, exs, hf, hx, he, Res.to_err, Out.seq_err], hq⟩
  | bad => trivial
theorem M_augi {xs : List Int} {ke : E} {r rk : Res Int} {k : List Int → Fl ρ σ} {env2 : List Int → Env} (hx : env[i]? = some (sO xs)) (hq : Q env) (hk : Rl vV (ev c ke env) rk) (he : Rl vV (ev c e env) r) (hs : ∀ ys, env.set i (sO ys) = env2 ys) (h : ∀ ys, Sim j V P Q (exss c rest (env2 ys)) (k ys)) : Sim j V P Q (exss c (.augi i ke .add e :: rest) env) (rk.fl fun z => (ixR xs z).fl fun a => r.fl fun b => (setR xs z (a + b)).fl k) := by
  cases rk with
  | ok z =>
    have hk' : ev c ke env = .ok (.val (.int z)) := hk.eq
    have hx : env[i]? = some (.own (xs.map D.int)) := hx
    show Sim j V P Q _ ((ixR xs z).fl fun a => r.fl fun b => (setR xs z (a + b)).fl k)
    unfold ixR setR
    cases q : ixNat xs.length z with
    | none => trivial
    | some n =>
      have q' : ixNat (xs.map D.int).length z = some n := by rw [List.length_map]; exact q
      rw [Option.bind_some]
      cases w : xs[n]? with
      | none => trivial
      | some a =>
        have w' : (xs.map D.int)[n]? = some (.int a) := by rw [List.getElem?_map, w]; rfl
        cases r with
        | bad => trivial
        | err k fs =>
          have he : ev c e env = .err k fs := he
          exact ⟨env, by simp only [exss, exs, hx, hk', q', w', he, Res.to_ok, Res.to_err, Out.seq_err], hq⟩
        | ok b =>
          have he' : ev c e env = .ok (.val (.int b)) := he.eq
          have hs : env.set i (.own ((xs.set n (a + b)).map D.int)) = env2 (xs.set n (a + b)) := hs _
          rw [List.map_set] at hs
          have e1 : exs c (.augi i ke .add e) env = .nx (env2 (xs.set n (a + b))) := by simp only [exs, hx, hk', q', w', he', Res.to_ok, hs]
          rw [exss_nx e1]
          exact h _
  | err k fs =>
    have hk : ev c ke env = .err k fs := hk
    exact ⟨env, by simp only [exss, exs, hx, hk, Res.to_err, Out.seq_err], hq⟩
  | bad => trivial
theorem M_augiS {xs : List Int} {ke : E} {r rk : Res Int} {k : List Int → Fl ρ σ} {env2 : List Int → Env} (hx : env[i]? = some (sO xs)) (hq : Q env) (hk : Rl vV (ev c ke env) rk) (he : Rl vV (ev c e env) r) (hs : ∀ ys, env.set i (sO ys) = env2 ys) (h : ∀ ys, Sim j V P Q (exss c rest (env2 ys)) (k ys)) : Sim j V P Q (exss c (.augi i ke .sub e :: rest) env) (rk.fl fun z => (ixR xs z).fl fun a => r.fl fun b => (setR xs z (a - b)).fl k) := by
  cases rk with
  | ok z =>
    have hk' : ev c ke env = .ok (.val (.int z)) := hk.eq
    have hx : env[i]? = some (.own (xs.map D.int)) := hx
    show Sim j V P Q _ ((ixR xs z).fl fun a => r.fl fun b => (setR xs z (a - b)).fl k)
    unfold ixR setR
    cases q : ixNat xs.length z with
    | none => trivial
    | some n =>
      have q' : ixNat (xs.map D.int).length z = some n := by rw [List.length_map]; exact q
      rw [Option.bind_some]
      cases w : xs[n]? with
      | none => trivial
      | some a =>
        have w' : (xs.map D.int)[n]? = some (.int a) := by rw [List.getElem?_map, w]; rfl
        cases r with
        | bad => trivial
        | err k fs =>
          have he : ev c e env = .err k fs := he
          exact ⟨env, by simp only [exss, exs, hx, hk', q', w', he, Res.to_ok, Res.to_err, Out.seq_err], hq⟩
        | ok b =>
          have he' : ev c e env = .ok (.val (.int b)) := he.eq
          have hs : env.set i (.own ((xs.set n (a - b)).map D.int)) = env2 (xs.set n (a - b)) := hs _
          rw [List.map_set] at hs
          have e1 : exs c (.augi i ke .sub e) env = .nx (env2 (xs.set n (a - b))) := by simp only [exs, hx, hk', q', w', he', Res.to_ok, hs]
          rw [exss_nx e1]
          exact h _
  | err k fs =>
    have hk : ev c ke env = .err k fs := hk
    exact ⟨env, by simp only [exss, exs, hx, hk, Res.to_err, Out.seq_err], hq⟩
  | bad => trivial
theorem M_setf {k n : Nat} {ds : List D} {env' : Env} {r : Res α} {kk : α → Fl ρ σ} (hf : frz fr env = .obj k ds :: env') (hq : Q (.obj k ds :: env')) (he : Rl W (ev c e (.obj k ds :: env')) r) (hn : n = ds.length) (h1 : n < 100) (h : ∀ x, Sim j V P Q (exss c rest (.obj k (ds ++ [(W x).d]) :: env')) (kk x)) : Sim j V P Q (exss c (.setf fr k n e :: rest) env) (r.fl kk) := by
  cases r with
  | ok x =>
    have e1 : exs c (.setf fr k n e) env = .nx (.obj k (ds ++ [(W x).d]) :: env') := by
      simp only [exs, hf, he.eq, Res.to_ok, List.head?_cons, List.set_cons_zero]
      exact if_pos ⟨trivial, hn, h1⟩
    rw [exss_nx e1]
    exact h x
  | err k fs =>
    have he : ev c e _ = .err k fs := he
    exact ⟨_, by simp only [exss, exs, hf, he, Res.to_err, Out.seq_err], hq⟩
  | bad => trivial
theorem M_ret {W : ρ → Vl} {r : Res ρ} (hV : ∀ x, V x = .v (W x)) (hf : frz fr env = env1) (hq : Q env1) (he : Rl W (ev c e env1) r) : Sim j V P Q (exss c (.ret fr e :: rest) env) (r.fl .ret : Fl ρ σ) := by
  cases r with
  | ok x => show exss _ _ _ = outOf (V x); rw [hV]; exact exss_ret (by simp only [exs, hf, he.eq, Res.to_ok])
  | err k fs =>
    have he : ev c e env1 = .err k fs := he
    exact ⟨env1, by simp only [exss, exs, hf, he, Res.to_err, Out.seq_err], hq⟩
  | bad => trivial
theorem M_retP {W : ρ → Vl} (hV : ∀ x, V x = .v (W x)) (x : ρ) (hf : frz fr env = env1) (he : Rl W (ev c e env1) (.ok x)) : Sim j V P Q (exss c (.ret fr e :: rest) env) (.ret x : Fl ρ σ) := by
  show exss _ _ _ = outOf (V x)
  rw [hV]
  exact exss_ret (by simp only [exs, hf, he.eq, Res.to_ok])
theorem M_retn (x : ρ) (h : V x = .v (.val .non)) : Sim j V P Q (exss c (.retn :: rest) env) (.ret x : Fl ρ σ) := by
  show exss _ _ _ = outOf (V x)
  rw [h]
  exact exss_ret (by simp only [exs])
theorem M_retoO {ds : List D} (x : ρ) (h : env[i]? = some (.own ds)) (h2 : V x = .v (.own ds)) : Sim j V P Q (exss c (.reto i :: rest) env) (.ret x : Fl ρ σ) := by
  show exss _ _ _ = outOf (V x)
  rw [h2]
  exact exss_ret (by simp only [exs, h])
theorem M_retoV {d : D} (x : ρ) (h : env[i]? = some (.val d)) (h2 : V x = .v (.val d)) : Sim j V P Q (exss c (.reto i :: rest) env) (.ret x : Fl ρ σ) := by
  show exss _ _ _ = outOf (V x)
  rw [h2]
  exact exss_ret (by simp only [exs, h])
theorem M_rais {es : List E} {k : Nat} {r : Res (List D)} {V' : List D → List D} (hV : ∀ l, V' l = l) (hq : Q env) (he : Rl V' (evs c es env) r) : Sim j V P Q (exss c (.rais k es :: rest) env) (r.fl fun ds => .err k ds : Fl ρ σ) := by
  cases r with
  | ok x =>
    have he : evs c es env = .ok x := by rw [he.eq, hV]
    exact ⟨env, by simp only [exss, exs, he, Res.to_ok, Out.seq_err], hq⟩
  | err k fs =>
    have he : evs c es env = .err k fs := he
    exact ⟨env, by simp only [exss, exs, he, Res.to_err, Out.seq_err], hq⟩
  | bad => trivial
theorem M_raisP {es : List E} {k : Nat} {ds : List D} (hq : Q env) (he : evs c es env = .ok ds) : Sim j V P Q (exss c (.rais k es :: rest) env) (.err k ds : Fl ρ σ) := ⟨env, by simp only [exss, exs, he, Res.to_ok, Out.seq_err], hq⟩
/-- the mode of a branch that never goes on -/
def jm : Nat → Nat
  | 2 => 1
  | 1 => 1
  | _ => 3
theorem sim_jump {o : Out} {g : Env → Out} {f : Fl ρ σ} (h : Sim (jm j) V P Q o f) : Sim j V P Q (o.seq g) f := by
  cases f with
  | ret r => have h : o = outOf (V r) := h; rw [h, outOf_seq]; rfl
  | err k fs => obtain ⟨e, h, q⟩ := h; rw [h]; exact ⟨e, rfl, q⟩
  | bad => trivial
  | nx s =>
    obtain ⟨e, h, q⟩ := h
    match j with
    | 0 => exact h.elim
    | 1 => have h : o = .ct e := h; rw [h]; exact ⟨e, rfl, q⟩
    | 2 => have h : o = .ct e := h; rw [h]; exact ⟨e, .inr rfl, q⟩
    | n + 3 => exact h.elim
theorem sim_bind {σ' : Type} {P' : σ' → Env → Prop} {o : Out} {g : Env → Out} {f : Fl ρ σ'} {k : σ' → Fl ρ σ} (h : Sim 0 V P' Q o f) (h2 : ∀ s e, P' s e → Sim j V P Q (g e) (k s)) : Sim j V P Q (o.seq g) (f.bind k) := by
  cases f with
  | ret r => have h : o = outOf (V r) := h; rw [h, outOf_seq]; rfl
  | err k fs => obtain ⟨e, h, q⟩ := h; rw [h]; exact ⟨e, rfl, q⟩
  | bad => trivial
  | nx s =>
    obtain ⟨e, h, q⟩ := h
    have h : o = .nx e := h
    rw [h]
    exact h2 s e q
theorem sim_to {m : Res Bool} {r : Res Bool} {g : Bool → Out} {k : Bool → Fl ρ σ} (hq : Q env) (h : Rl idB m r) (h2 : ∀ b, Sim j V P Q (g b) (k b)) : Sim j V P Q (m.to env g) (r.fl k) := by
  cases r with
  | ok b => have h : m = .ok b := h; rw [h]; exact h2 b
  | err k fs => have h : m = .err k fs := h; rw [h]; exact ⟨env, rfl, hq⟩
  | bad => trivial
theorem seq_to {m : Res Bool} {g : Bool → Out} {k : Env → Out} : (m.to env g).seq k = m.to env fun b => (g b).seq k := by cases m <;> rfl
variable {t : T} {a b : List S}
/-- if: the branch never goes on -/
theorem M_ifJ (x : Bool) {fa f : Fl ρ σ} (hf : frz fr env = env1) (ht : Rl idB (tv c t env1) (.ok x)) (h1 : Sim (jm j) V P Q (exss c a env1) fa) (h2 : Sim j V P Q (exss c rest env1) f) : Sim j V P Q (exss c (.ite fr t a [] :: rest) env) (if x = true then fa else f) := by
  have ht : tv c t env1 = .ok x := ht
  simp only [exss, exs, hf, ht, Res.to_ok]
  cases x
  · simp only [Bool.false_eq_true, if_false, Out.seq_nx]; exact h2
  · simp only [if_true]; exact sim_jump h1
theorem M_ifJM {r : Res Bool} {fa f : Fl ρ σ} (hf : frz fr env = env1) (hq : Q env1) (ht : Rl idB (tv c t env1) r) (h1 : Sim (jm j) V P Q (exss c a env1) fa) (h2 : Sim j V P Q (exss c rest env1) f) : Sim j V P Q (exss c (.ite fr t a [] :: rest) env) (r.fl fun x => if x = true then fa else f) := by
  simp only [exss, exs, hf, seq_to]
  refine sim_to hq ht fun b => ?_
  cases b
  · simp only [Bool.false_eq_true, if_false, Out.seq_nx]; exact h2
  · simp only [if_true]; exact sim_jump h1
/-- both never go on -/
theorem M_ifJJ (x : Bool) {fa fb : Fl ρ σ} (hf : frz fr env = env1) (ht : Rl idB (tv c t env1) (.ok x)) (h1 : Sim (jm j) V P Q (exss c a env1) fa) (h2 : Sim (jm j) V P Q (exss c b env1) fb) : Sim j V P Q (exss c (.ite fr t a b :: rest) env) (if x = true then fa else fb) := by
  have ht : tv c t env1 = .ok x := ht
  simp only [exss, exs, hf, ht, Res.to_ok]
  cases x
  · exact sim_jump h2
  · exact sim_jump h1
theorem M_ifJJM {r : Res Bool} {fa fb : Fl ρ σ} (hf : frz fr env = env1) (hq : Q env1) (ht : Rl idB (tv c t env1) r) (h1 : Sim (jm j) V P Q (exss c a env1) fa) (h2 : Sim (jm j) V P Q (exss c b env1) fb) : Sim j V P Q (exss c (.ite fr t a b :: rest) env) (r.fl fun x => if x = true then fa else fb) := by
  simp only [exss, exs, hf, seq_to]
  refine sim_to hq ht fun b => ?_
  cases b
  · exact sim_jump h2
  · exact sim_jump h1
/-- the branches meet -/
theorem M_ifN {σ' : Type} (P' : σ' → Env → Prop) (x : Bool) {fa fb : Fl ρ σ'} {k : σ' → Fl ρ σ} (hf : frz fr env = env1) (ht : Rl idB (tv c t env1) (.ok x)) (h1 : Sim 0 V P' Q (exss c a env1) fa) (h2 : Sim 0 V P' Q (exss c b env1) fb) (h : ∀ s e, P' s e → Sim j V P Q (exss c rest e) (k s)) : Sim j V P Q (exss c (.ite fr t a b :: rest) env) ((if x = true then fa else fb).bind k) := by
  have ht : tv c t env1 = .ok x := ht
  simp only [exss, exs, hf, ht, Res.to_ok]
  cases x
  · exact sim_bind h2 h
  · exact sim_bind h1 h
theorem M_ifNM {σ' : Type} (P' : σ' → Env → Prop) {r : Res Bool} {fa fb : Fl ρ σ'} {k : σ' → Fl ρ σ} (hf : frz fr env = env1) (hq : Q env1) (ht : Rl idB (tv c t env1) r) (h1 : Sim 0 V P' Q (exss c a env1) fa) (h2 : Sim 0 V P' Q (exss c b env1) fb) (h : ∀ s e, P' s e → Sim j V P Q (exss c rest e) (k s)) : Sim j V P Q (exss c (.ite fr t a b :: rest) env) ((r.fl fun x => if x = true then fa else fb).bind k) := by
  simp only [exss, exs, hf]
  refine sim_bind (P' := P') ?_ h
  refine sim_to hq ht fun b => ?_
  cases b
  · exact h2
  · exact h1
theorem sim_loop {o m : Out} {f : Fl ρ σ} {g : Env → Out} {k : σ → Fl ρ σ} (h : Sim 2 V P Q o f) (h2 : ∀ s e, P s e → Sim 0 V P Q (g e) (k s)) (h3 : ∀ e, o = .nx e → m = g e) (h4 : ∀ e, o = .ct e → m = g e) (h5 : ∀ v, o = outOf v → m = outOf v) (h6 : ∀ n fs e, o = .err n fs e → m = .err n fs e) : Sim 0 V P Q m (f.bind k) := by
  cases f with
  | ret r => exact h5 _ h
  | err k fs => obtain ⟨e, h, q⟩ := h; exact ⟨e, h6 _ _ _ h, q⟩
  | bad => trivial
  | nx s =>
    obtain ⟨e, h, q⟩ := h
    have h : o = .nx e ∨ o = .ct e := h
    rcases h with h | h
    · rw [h3 e h]; exact h2 s e q
    · rw [h4 e h]; exact h2 s e q
theorem sim_for {β : Type} [Emb β] {tg : Tg} {body : β → σ → Fl ρ σ} (hb : ∀ x s e, P s e → ∃ e1, setT tg (toD x) e = some e1 ∧ Sim 2 V P Q (exss c b e1) (body x s)) : ∀ (xs : List β) (s : σ) (e : Env), P s e → Sim 0 V P Q (forLoop tg (exss c b) (mD xs) e) (forF body xs s)
  | [], s, e, h => ⟨e, rfl, h⟩
  | x :: xs, s, e, h => by
    obtain ⟨e1, h1, h2⟩ := hb x s e h
    show Sim 0 V P Q (forLoop tg (exss c b) (toD x :: mD xs) e) _
    simp only [forLoop, h1, forF]
    exact sim_loop h2 (fun s e h => sim_for hb xs s e h) (fun e h => by rw [h]) (fun e h => by rw [h]) (fun v h => by rw [h]; cases v <;> rfl) (fun _ _ _ h => by rw [h])
theorem M_for {β σ' : Type} [Emb β] {tg : Tg} {it : It} (P' : σ' → Env → Prop) {rx : Res (List β)} {body : β → σ' → Fl ρ σ'} {k : σ' → Fl ρ σ} (s0 : σ') (hf : frz fr env = env1) (hq : Q env1) (hi : Rl mD (itsF c it env1) rx) (h0 : P' s0 env1) (hb : ∀ x s e, P' s e → ∃ e1, setT tg (toD x) e = some e1 ∧ Sim 2 V P' Q (exss c b e1) (body x s)) (h : ∀ s e, P' s e → Sim j V P Q (exss c rest e) (k s)) : Sim j V P Q (exss c (.forl fr tg it b :: rest) env) (rx.fl fun xs => (forF body xs s0).bind k) := by
  cases rx with
  | ok xs =>
    simp only [exss, exs, hf, hi.eq, Res.to_ok]
    exact sim_bind (sim_for hb xs s0 env1 h0) h
  | err k fs =>
    have hi : itsF c it env1 = .err k fs := hi
    exact ⟨env1, by simp only [exss, exs, hf, hi, Res.to_err, Out.seq_err], hq⟩
  | bad => trivial
theorem sim_whl {test : σ → Res Bool} {body : σ → Fl ρ σ} (hb : ∀ s e, P s e → Q (frz fr e) ∧ P s (frz fr e) ∧ Rl idB (tv c t (frz fr e)) (test s) ∧ Sim 2 V P Q (exss c b (frz fr e)) (body s)) : ∀ (n : Nat) (s : σ) (e : Env), P s e → Sim 0 V P Q (whlLoop (tv c t) (exss c b) fr n e) (whlF test body n s)
  | 0, s, e, h => trivial
  | n + 1, s, e, h => by
    obtain ⟨hq, hp, ht, h2⟩ := hb s e h
    simp only [whlLoop, whlF]
    refine sim_to hq ht fun z => ?_
    cases z
    · exact ⟨_, rfl, hp⟩
    · simp only [if_true]
      exact sim_loop h2 (fun s e h => sim_whl hb n s e h) (fun e h => by rw [h]) (fun e h => by rw [h]) (fun v h => by rw [h]; cases v <;> rfl) (fun _ _ _ h => by rw [h])
theorem M_whl {σ' : Type} (P' : σ' → Env → Prop) {test : σ' → Res Bool} {body : σ' → Fl ρ σ'} {k : σ' → Fl ρ σ} (s0 : σ') (h0 : P' s0 env) (hb : ∀ s e, P' s e → Q (frz fr e) ∧ P' s (frz fr e) ∧ Rl idB (tv c t (frz fr e)) (test s) ∧ Sim 2 V P' Q (exss c b (frz fr e)) (body s)) (h : ∀ s e, P' s e → Sim j V P Q (exss c rest e) (k s)) : Sim j V P Q (exss c (.whl fr t b :: rest) env) ((whlF test body c.fuel s0).bind k) := by
  simp only [exss, exs]
  exact sim_bind (sim_whl hb c.fuel s0 env h0) h
/-- a loop's start may be written otherwise -/
theorem M_try {σ' : Type} (P' : σ' → Env → Prop) (Q' : Env → Prop) {hs : List (Nat × Option Nat × List S)} {f : Fl ρ σ'} {hd : Nat → List D → Fl ρ σ'} {k : σ' → Fl ρ σ} (h1 : Sim 0 V P' Q' (exss c b env) f) (hh : ∀ n fs e, Q' e → (match hd n fs with
    | .err _ _ => True
    | g => Sim 0 V P' Q (hds c hs n fs e) g)) (h : ∀ s e, P' s e → Sim j V P Q (exss c rest e) (k s)) : Sim j V P Q (exss c (.try b hs :: rest) env) ((tryF f hd).bind k) := by
  simp only [exss, exs]
  refine sim_bind (P' := P') ?_ h
  cases f with
  | nx s => obtain ⟨e, h, q⟩ := h1; have h : _ = Out.nx e := h; rw [h]; exact ⟨e, rfl, q⟩
  | ret r => have h : _ = outOf (V r) := h1; rw [h]; show _ = outOf (V r); cases V r <;> rfl
  | bad => trivial
  | err n fs =>
    obtain ⟨e, h, q⟩ := h1
    rw [h]
    have z := hh n fs e q
    unfold tryF
    simp only
    cases w : hd n fs with
    | err n' fs' => trivial
    | nx s => rw [w] at z; exact z
    | ret r => rw [w] at z; exact z
    | bad => trivial
/-- the handlers, one by one -/
def HdS (V : ρ → Rt) (P : σ → Env → Prop) (Q : Env → Prop) (o : Out) (f : Fl ρ σ) : Prop := match f with
  | .err _ _ => True
  | g => Sim 0 V P Q o g
theorem hd_nil {n : Nat} {fs : List D} : HdS V P Q (hds c [] n fs env) (.err n fs) := trivial
theorem hd_cons (hv : True) {n k : Nat} {fs : List D} {nm : Option Nat} {r : List (Nat × Option Nat × List S)} {fa f : Fl ρ σ} {P'' : σ → Env → Prop} (h1 : exm n k = true → Sim 0 V P'' (fun _ => True) (exss c b (bindX nm n fs env)) fa) (hp : ∀ s e, P'' s e → P s (dropX nm e)) (h2 : HdS V P Q (hds c r n fs env) f) : HdS V P Q (hds c ((k, nm, b) :: r) n fs env) (if exm n k = true then fa else f) := by
  by_cases q : exm n k = true
  · rw [if_pos q]
    unfold HdS
    have h1 := h1 q
    simp only [hds, q, if_true]
    cases fa with
    | nx s => obtain ⟨e, h, w⟩ := h1; have h : _ = Out.nx e := h; rw [h]; exact ⟨_, rfl, hp s e w⟩
    | ret r =>
      have h : _ = outOf (V r) := h1
      rw [h]
      show _ = outOf (V r)
      cases V r <;> rfl
    | err n' fs' => trivial
    | bad => trivial
  · rw [if_neg q]
    unfold HdS at h2 ⊢
    have e : hds c ((k, nm, b) :: r) n fs env = hds c r n fs env := by simp only [hds, q]; rfl
    rw [e]
    exact h2
end
/-! ### defs -/
section
variable {α ρ σ : Type} {V : ρ → Rt} {c : Ctx} {fd : Fn} {ds : List D} {env : Env}
theorem run_sim {f : Fl ρ σ} (hi : fd.ini = none) (hl : ds.length = fd.pm.length) (he : startE fd.pm ds ++ List.replicate (fd.ns - fd.pm.length) .no = env) (h : Sim 0 V (fun _ _ => False) (fun _ => True) (exss c fd.body env) f) : Rl V (runFnx fd c ds) f.run := by
  unfold runFnx
  rw [if_pos hl, hi]
  simp only [he]
  cases f with
  | nx s => trivial
  | ret r =>
    have h : _ = outOf (V r) := h
    rw [h]
    show _ = Res.ok (V r)
    cases V r <;> rfl
  | err k fs => obtain ⟨e, h, _⟩ := h; rw [h]; rfl
  | bad => trivial
theorem run_simN {f : Fl ρ σ} (n : ρ) (hi : fd.ini = none) (hl : ds.length = fd.pm.length) (he : startE fd.pm ds ++ List.replicate (fd.ns - fd.pm.length) .no = env) (hn : V n = .v (.val .non)) (h : Sim 0 V (fun _ _ => True) (fun _ => True) (exss c fd.body env) f) : Rl V (runFnx fd c ds) (f.runN n) := by
  unfold runFnx
  rw [if_pos hl, hi]
  simp only [he]
  cases f with
  | nx s => obtain ⟨e, h, _⟩ := h; have h : _ = Out.nx e := h; rw [h]; show Res.ok _ = Res.ok (V n); rw [hn]
  | ret r =>
    have h : _ = outOf (V r) := h
    rw [h]
    show _ = Res.ok (V r)
    cases V r <;> rfl
  | err k fs => obtain ⟨e, h, _⟩ := h; rw [h]; rfl
  | bad => trivial
theorem run_simI {W : α → Rt} {k : Nat} {g : σ → α} {f : Fl Unit σ} (hi : fd.ini = some k) (hl : ds.length = fd.pm.length) (he : .obj k [] :: startE fd.pm ds ++ List.replicate (fd.ns - fd.pm.length - 1) .no = env) (h : Sim 0 (fun x : Unit => .v (vV x)) (fun s e => ∃ k2 xs r, e = .obj k2 xs :: r ∧ W (g s) = .v (.val (.ins k xs))) (fun _ => True) (exss c fd.body env) f) : Rl W (runFnx fd c ds) (f.mk g) := by
  unfold runFnx
  rw [if_pos hl, hi]
  simp only [he]
  cases f with
  | nx s =>
    obtain ⟨e, h, k2, xs, r, rfl, hw⟩ := h
    have h : _ = Out.nx _ := h
    rw [h]
    show Res.ok _ = Res.ok (W (g s))
    rw [hw]
  | ret r => trivial
  | err k fs => obtain ⟨e, h, _⟩ := h; rw [h]; rfl
  | bad => trivial
theorem call_rl {tb : Tab} {F n k f : Nat} {fi : FnI} {r : Res ρ} (hk : n + 1 ≤ k) (hf : tb.fns[f]? = some fi) (h : ∀ k, n ≤ k → Rl V (runFnx fi.fn ⟨semx (tblOf tb) F k, F⟩ ds) r) : Rl V ((⟨semx (tblOf tb) F k, F⟩ : Ctx).callx f ds) r := by
  obtain ⟨m, rfl⟩ : ∃ m, k = m + 1 := ⟨k - 1, by omega⟩
  show Rl V (semx (tblOf tb) F (m + 1) f ds) r
  rw [semx_succ hf m]
  exact h m (by omega)
/-- an answer, as a value -/
abbrev rV {α : Type} [Emb α] (x : α) : Rt := .v (vV x)
abbrev rO {α : Type} [Emb α] (x : List α) : Rt := .v (vO x)
theorem c_v {α : Type} [Emb α] {c : Ctx} {f : Nat} {ds : List D} {r : Res α} (h : Rl rV (c.callx f ds) r) : Rl vV (c.call f ds) r := by
  unfold Ctx.call
  cases r with
  | ok a => rw [h.eq]; rfl
  | err k fs => rw [show c.callx f ds = .err k fs from h]; rfl
  | bad => trivial
theorem c_o {α : Type} [Emb α] {c : Ctx} {f : Nat} {ds : List D} {r : Res (List α)} (h : Rl rO (c.callx f ds) r) : Rl vO (c.call f ds) r := by
  unfold Ctx.call
  cases r with
  | ok a => rw [h.eq]; rfl
  | err k fs => rw [show c.callx f ds = .err k fs from h]; rfl
  | bad => trivial
end
end PL

set_option linter.all false
set_option Elab.async false
set_option maxRecDepth 100000
set_option maxHeartbeats 1000000
/-! The typed layer: forms that the printer uses. -/
namespace PL
open PySem (Str)
section
variable {α β : Type} [Emb α] [Emb β] {m : Res Vl} {md : Res D}
theorem co_someV (x : α) (h : Rl vV m (.ok x)) : Rl vV m (.ok (some x)) := h
theorem co_someD (x : α) (h : Rl toD md (.ok x)) : Rl toD md (.ok (some x)) := h
theorem co_noneV (h : Rl vV m (.ok ())) : Rl vV m (.ok (none : Option α)) := h
theorem co_noneD (h : Rl toD md (.ok ())) : Rl toD md (.ok (none : Option α)) := h
theorem co_anyV (x : α) (h : Rl vV m (.ok x)) : Rl vV m (.ok (toD x)) := h
theorem co_anyD (x : α) (h : Rl toD md (.ok x)) : Rl toD md (.ok (toD x)) := h
theorem y_notL (xs : List α) : Rl vV ((truthV (vV xs)).bind fun b => .ok (.val (.bl (!b)))) (.ok xs.isEmpty) := by
  show ((truth (.lst (xs.map Emb.d))).bind fun b => Res.ok (Vl.val (.bl (!b)))) = _
  cases xs <;> rfl
theorem y_tup {x : α} {ds : List D} (h : ds.length ≤ SL) (hx : Emb.d x = .tup ds) : Rl vV (if ds.length ≤ SL then .ok (.val (.tup ds)) else .bad) (.ok x) := by
  rw [if_pos h]
  show _ = Res.ok (Vl.val (Emb.d x))
  rw [hx]
theorem y_lst {xs : List α} {ds : List D} (h : ds.length ≤ SL) (hx : ds = xs.map Emb.d) : Rl vO (if ds.length ≤ SL then .ok (.own ds) else .bad) (.ok xs) := by
  rw [if_pos h, hx]
  rfl
theorem y_trO (x : Option α) (h : ∀ y : α, truth (Emb.d y) = .ok true) : Rl idB (truth (Emb.d x)) (.ok x.isSome) := by
  cases x with
  | none => rfl
  | some y => exact h y
theorem y_isOT {t : Ty} (x : Option α) (h : ∀ y : α, isTy (Emb.d y) t = .ok true) : Rl vV (ofB (isTy (Emb.d x) t)) (.ok x.isSome) := by
  cases x with
  | none => rfl
  | some y =>
    show ofB (isTy (Emb.d y) t) = _
    rw [h y]
    rfl
theorem y_isOF {t : Ty} (x : Option α) (h : ∀ y : α, isTy (Emb.d y) t = .ok false) : Rl vV (ofB (isTy (Emb.d x) t)) (.ok false) := by
  cases x with
  | none => rfl
  | some y =>
    show ofB (isTy (Emb.d y) t) = _
    rw [h y]
    rfl
theorem y_isD {t : Ty} (d : D) : Rl vV (ofB (isTy (Emb.d d) t)) (isTy d t) := y_ofB (rl_id rfl)
theorem N_nil {c : Ctx} {env : Env} : evs c [] env = .ok [] := by rw [evs]
theorem N_cons {γ : Type} {V : γ → Vl} {c : Ctx} {env : Env} {e : E} {es : List E} {x : γ} {d : D} {ds : List D} (h : Rl V (ev c e env) (.ok x)) (hd : (V x).d = d) (h2 : evs c es env = .ok ds) : evs c (e :: es) env = .ok (d :: ds) := by
  rw [evs, h.eq, Res.bind_ok, h2, Res.bind_ok, hd]
end
section
variable {α β : Type} [Emb α] [Emb β] {c : Ctx} {env : Env} {tg : Tg} {it : It} {el : E} {own : List Nat} {t : T}
theorem E_compP0 {xs : List α} {f : α → β} {V : β → Vl} (hV : ∀ y, (V y).d = toD y) (hi : Rl mD (its c it env) (.ok xs)) (e1 : α → Env) (ht : ∀ x, setT tg (toD x) (wipeE env own) = some (e1 x)) (he : ∀ x, Rl V (ev c el (e1 x)) (.ok (f x))) : Rl vO (ev c (.comp tg it [] el own) env) (compP f xs) := E_compP (rx := .ok xs) hV hi e1 ht he
theorem E_compM0 {xs : List α} {f : α → Res β} {V : β → Vl} (hV : ∀ y, (V y).d = toD y) (hi : Rl mD (its c it env) (.ok xs)) (e1 : α → Env) (ht : ∀ x, setT tg (toD x) (wipeE env own) = some (e1 x)) (he : ∀ x, Rl V (ev c el (e1 x)) (f x)) : Rl vO (ev c (.comp tg it [] el own) env) (compM f xs) := E_compM (rx := .ok xs) hV hi e1 ht he
theorem E_compF0 {xs : List α} {p : α → Bool} {f : α → β} {V : β → Vl} (hV : ∀ y, (V y).d = toD y) (hi : Rl mD (its c it env) (.ok xs)) (e1 : α → Env) (ht : ∀ x, setT tg (toD x) (wipeE env own) = some (e1 x)) (hc : ∀ x, Rl idB (tv c t (e1 x)) (.ok (p x))) (he : ∀ x, Rl V (ev c el (e1 x)) (.ok (f x))) : Rl vO (ev c (.comp tg it [t] el own) env) (compF p f xs) := E_compF (rx := .ok xs) hV hi e1 ht hc he
theorem E_compT0 {xs : List α} {p : α → Res Bool} {f : α → Res β} {V : β → Vl} (hV : ∀ y, (V y).d = toD y) (hi : Rl mD (its c it env) (.ok xs)) (e1 : α → Env) (ht : ∀ x, setT tg (toD x) (wipeE env own) = some (e1 x)) (hc : ∀ x, Rl idB (tv c t (e1 x)) (p x)) (he : ∀ x, Rl V (ev c el (e1 x)) (f x)) : Rl vO (ev c (.comp tg it [t] el own) env) (compG p f xs) := E_compT (rx := .ok xs) hV hi e1 ht hc he
end
section
variable {α ρ σ : Type} {V : ρ → Rt} {P : σ → Env → Prop} {Q : Env → Prop} {j : Nat} {c : Ctx} {env env1 : Env} {fr : List Nat} {rest : List S} {W : α → Vl} {i : Nat} {e : E}
theorem M_appP {β : Type} [Emb β] {W : β → Vl} (hW : ∀ y, (W y).d = toD y) {xs : List β} (y : β) {k : List β → Fl ρ σ} {env2 : List β → Env} (hf : frz fr env = env1) (hx : env1[i]? = some (sO xs)) (hq : Q env1) (he : Rl W (ev c e env1) (.ok y)) (hs : ∀ ys, env1.set i (sO ys) = env2 ys) (h : ∀ ys, Sim j V P Q (exss c rest (env2 ys)) (k ys)) : Sim j V P Q (exss c (.app fr i e :: rest) env) ((appR xs y).fl k) := M_app (r := .ok y) hW hf hx hq he hs h
theorem M_setiP {β : Type} [Emb β] {W : β → Vl} (hW : ∀ y, (W y).d = toD y) {xs : List β} {ke : E} (y : β) (z : Int) {k : List β → Fl ρ σ} {env2 : List β → Env} (hf : frz fr env = env1) (hx : env1[i]? = some (sO xs)) (hq : Q env1) (he : Rl W (ev c e env1) (.ok y)) (hk : Rl vV (ev c ke env1) (.ok z)) (hs : ∀ ys, env1.set i (sO ys) = env2 ys) (h : ∀ ys, Sim j V P Q (exss c rest (env2 ys)) (k ys)) : Sim j V P Q (exss c (.seti fr i ke e :: rest) env) ((setR xs z y).fl k) := M_seti (r := .ok y) (rk := .ok z) hW hf hx hq he hk hs h
theorem M_augP {x : Int} (y : Int) {k : Int → Fl ρ σ} {env2 : Int → Env} (hx : env[i]? = some (sV x)) (he : Rl vV (ev c e env) (.ok y)) (hs : ∀ y, env.set i (sV y) = env2 y) (h : ∀ y, Sim j V P Q (exss c rest (env2 y)) (k y)) : Sim j V P Q (exss c (.aug i .add e :: rest) env) ((Res.ok (x + y)).fl k) := by
  have hx : env[i]? = some (.val (.int x)) := hx
  have he' : ev c e env = .ok (.val (.int y)) := he.eq
  have e1 : exs c (.aug i .add e) env = .nx (env2 (x + y)) := by simp only [exs, hx, he', Res.to_ok, ← hs]; rfl
  rw [exss_nx e1]
  exact h _
theorem M_augSP {x : Int} (y : Int) {k : Int → Fl ρ σ} {env2 : Int → Env} (hx : env[i]? = some (sV x)) (he : Rl vV (ev c e env) (.ok y)) (hs : ∀ y, env.set i (sV y) = env2 y) (h : ∀ y, Sim j V P Q (exss c rest (env2 y)) (k y)) : Sim j V P Q (exss c (.aug i .sub e :: rest) env) ((Res.ok (x - y)).fl k) := by
  have hx : env[i]? = some (.val (.int x)) := hx
  have he' : ev c e env = .ok (.val (.int y)) := he.eq
  have e1 : exs c (.aug i .sub e) env = .nx (env2 (x - y)) := by simp only [exs, hx, he', Res.to_ok, ← hs]; rfl
  rw [exss_nx e1]
  exact h _
theorem M_augM {x : Int} {r : Res Int} {k : Int → Fl ρ σ} {env2 : Int → Env} (hx : env[i]? = some (sV x)) (hq : Q env) (he : Rl vV (ev c e env) r) (hs : ∀ y, env.set i (sV y) = env2 y) (h : ∀ y, Sim j V P Q (exss c rest (env2 y)) (k y)) : Sim j V P Q (exss c (.aug i .add e :: rest) env) ((r.bind fun y => .ok (x + y)).fl k) := by
  cases r with
  | ok y => exact M_augP y hx he hs h
  | err n fs =>
    have he : ev c e env = .err n fs := he
    have hx : env[i]? = some (.val (.int x)) := hx
    exact ⟨env, by simp only [exss, exs, hx, he, Res.to_err, Out.seq_err], hq⟩
  | bad => trivial
theorem M_augSM {x : Int} {r : Res Int} {k : Int → Fl ρ σ} {env2 : Int → Env} (hx : env[i]? = some (sV x)) (hq : Q env) (he : Rl vV (ev c e env) r) (hs : ∀ y, env.set i (sV y) = env2 y) (h : ∀ y, Sim j V P Q (exss c rest (env2 y)) (k y)) : Sim j V P Q (exss c (.aug i .sub e :: rest) env) ((r.bind fun y => .ok (x - y)).fl k) := by
  cases r with
  | ok y => exact M_augSP y hx he hs h
  | err n fs =>
    have he : ev c e env = .err n fs := he
    have hx : env[i]? = some (.val (.int x)) := hx
    exact ⟨env, by simp only [exss, exs, hx, he, Res.to_err, Out.seq_err], hq⟩
  | bad => trivial
theorem M_setfE {k n : Nat} {ds : List D} {env' : Env} {r : Res α} {kk : α → Fl ρ σ} {env2 : α → Env} (hf : frz fr env = .obj k ds :: env') (hq : Q (.obj k ds :: env')) (he : Rl W (ev c e (.obj k ds :: env')) r) (hn : n = ds.length) (h1 : n < 100) (hs : ∀ x, .obj k (ds ++ [(W x).d]) :: env' = env2 x) (h : ∀ x, Sim j V P Q (exss c rest (env2 x)) (kk x)) : Sim j V P Q (exss c (.setf fr k n e :: rest) env) (r.fl kk) := M_setf hf hq he hn h1 fun x => by rw [hs x]; exact h x
theorem M_forP {β σ' : Type} [Emb β] {tg : Tg} {it : It} {b : List S} (P' : σ' → Env → Prop) {xs : List β} {body : β → σ' → Fl ρ σ'} {k : σ' → Fl ρ σ} (s0 : σ') (hf : frz fr env = env1) (hi : Rl mD (itsF c it env1) (.ok xs)) (h0 : P' s0 env1) (hb : ∀ x s e, P' s e → ∃ e1, setT tg (toD x) e = some e1 ∧ Sim 2 V P' Q (exss c b e1) (body x s)) (h : ∀ s e, P' s e → Sim j V P Q (exss c rest e) (k s)) : Sim j V P Q (exss c (.forl fr tg it b :: rest) env) ((forF body xs s0).bind k) := by
  simp only [exss, exs, hf, hi.eq, Res.to_ok]
  exact sim_bind (sim_for hb xs s0 env1 h0) h
theorem exm_eq {n k : Nat} (h : exm n k = true) (hk : k ≠ 0) : n = k := by
  unfold exm at h
  simp only [Bool.or_eq_true, beq_iff_eq] at h
  omega
end
theorem T_vB {c : Ctx} {env : Env} {o : O} {r : Res Bool} (h : Rl toD (po c o env) r) : Rl idB (tv c (.v o) env) r := by
  rw [tv]
  cases r with
  | ok b => rw [h.eq]; rfl
  | err k fs => rw [show po c o env = .err k fs from h]; rfl
  | bad => trivial
theorem E_intM {c : Ctx} {env : Env} {o : O} {r : Res Int} (h : Rl toD (po c o env) r) : Rl vV (ev c (.b1 .int o) env) r := by
  rw [ev]
  cases r with
  | ok b => rw [h.eq]; rfl
  | err k fs => rw [show po c o env = .err k fs from h]; rfl
  | bad => trivial
/-! ### data of no known type -/
@[irreducible] def ixD (a : D) (i : Int) : Res D := index a (.int i)
@[irreducible] def lenD (a : D) : Res Int := match len a with
  | .ok (.int n) => .ok n
  | _ => .bad
@[irreducible] def walkD (a : D) : Res (List D) := match walkOf a with
  | some ds => .ok ds
  | none => .bad
@[irreducible] def trD (a : D) : Res Bool := truth a
@[irreducible] def unI (d : D) : Res Int := match d with
  | .int i => .ok i
  | _ => .bad
@[irreducible] def unB (d : D) : Res Bool := match d with
  | .bl i => .ok i
  | _ => .bad
@[irreducible] def unS (d : D) : Res Str := match d with
  | .str i => .ok i
  | _ => .bad
@[irreducible] def unLD (d : D) : Res (List D) := match d with
  | .lst i => .ok i
  | _ => .bad
@[irreducible] def unT2 (d : D) : Res (D × D) := match d with
  | .tup [a, b] => .ok (a, b)
  | _ => .bad
@[irreducible] def unT3 (d : D) : Res (T3 D D D) := match d with
  | .tup [a, b, c] => .ok ⟨a, b, c⟩
  | _ => .bad
@[irreducible] def unT4 (d : D) : Res (T4 D D D D) := match d with
  | .tup [a, b, c, e] => .ok ⟨a, b, c, e⟩
  | _ => .bad
/-- a tuple of any length -/
structure VT (α : Type) where
  l : List α
instance {α : Type} [Emb α] : Emb (VT α) := ⟨fun p => .tup (p.l.map Emb.d)⟩
section
variable {β : Type}
theorem map_id_d (xs : List D) : xs.map (Emb.d : D → D) = xs := by
  have : (Emb.d : D → D) = fun x => x := rfl
  rw [this, List.map_id']
theorem y_ixD (a : D) (i : Int) : Rl vV ((index (Emb.d a) (Emb.d i)).bind fun d => .ok (.val d)) (ixD a i) := by
  unfold ixD
  show Rl vV ((index a (.int i)).bind fun d => .ok (.val d)) (index a (.int i))
  cases index a (.int i) <;> first | rfl | exact True.intro
theorem y_lenD (a : D) : Rl vV (b1 .len (Emb.d a)) (lenD a) := by
  unfold lenD
  show Rl vV ((len a).bind fun z => .ok (.val z)) _
  cases h : len a with
  | ok d => cases d <;> first | rfl | exact True.intro
  | err k fs => exact True.intro
  | bad => exact True.intro
theorem y_trD (a : D) : Rl idB (truth (Emb.d a)) (trD a) := by unfold trD; exact rl_id rfl
theorem I_sqD {c : Ctx} {env : Env} {o : O} (x : D) (h : Rl toD (po c o env) (.ok x)) : Rl mD (its c (.sq o) env) (walkD x) := by
  rw [its, h.eq]
  unfold walkD
  show Rl mD (match walkOf x with
    | some ds => .ok ds
    | none => .bad) _
  cases walkOf x with
  | none => exact True.intro
  | some ds => show Res.ok ds = Res.ok (ds.map Emb.d); rw [map_id_d]
theorem F_sqD {c : Ctx} {env : Env} {e : E} (x : D) (h : Rl toD (po c (.e e) env) (.ok x)) : Rl mD (itsF c (.sq (.e e)) env) (walkD x) := I_sqD x h
theorem F_sD {c : Ctx} {env : Env} {i : Nat} (x : D) (h : env[i]? = some (sV x)) : Rl mD (itsF c (.sq (.s i)) env) (walkD x) := by
  unfold itsF walkD
  have h : env[i]? = some (.val x) := h
  simp only [h]
  cases walkOf x with
  | none => exact True.intro
  | some ds => show Res.ok ds = Res.ok (ds.map Emb.d); rw [map_id_d]
/-- one step of a conversion -/
theorem rl_cv {α γ δ : Type} {V : α → γ} {W : δ → γ} {m : Res γ} {g : α → Res δ} (x : α) (h : Rl V m (.ok x)) (hg : ∀ x y, g x = .ok y → W y = V x) (hb : ∀ x k fs, g x ≠ .err k fs) : Rl W m (g x) := by
  cases q : g x with
  | ok y => rw [show m = .ok (V x) from h, ← hg x y q]; rfl
  | err k fs => exact absurd q (hb x k fs)
  | bad => trivial
theorem rl_cvM {α γ δ : Type} {V : α → γ} {W : δ → γ} {m : Res γ} {g : α → Res δ} {r : Res α} (h : Rl V m r) (hg : ∀ x y, g x = .ok y → W y = V x) (hb : ∀ x k fs, g x ≠ .err k fs) : Rl W m (r.bind g) := by
  cases r with
  | ok x => exact rl_cv x h hg hb
  | err k fs => exact h
  | bad => trivial
def CvOk {δ : Type} [Emb δ] (g : D → Res δ) : Prop := (∀ x y, g x = .ok y → Emb.d y = x) ∧ ∀ x k fs, g x ≠ .err k fs
theorem cv_I : CvOk unI := ⟨fun x y h => by unfold unI at h; cases x <;> first | (cases h; rfl) | (cases h), fun x k fs h => by unfold unI at h; cases x <;> cases h⟩
theorem cv_B : CvOk unB := ⟨fun x y h => by unfold unB at h; cases x <;> first | (cases h; rfl) | (cases h), fun x k fs h => by unfold unB at h; cases x <;> cases h⟩
theorem cv_S : CvOk unS := ⟨fun x y h => by unfold unS at h; cases x <;> first | (cases h; rfl) | (cases h), fun x k fs h => by unfold unS at h; cases x <;> cases h⟩
theorem cv_LD : CvOk unLD := ⟨fun x y h => by
  unfold unLD at h
  cases x with
  | lst i => cases h; show D.lst (y.map Emb.d) = _; rw [map_id_d]
  | _ => (cases h), fun x k fs h => by unfold unLD at h; cases x <;> cases h⟩
theorem cv_T2 : CvOk unT2 := ⟨fun x y h => by
  unfold unT2 at h
  split at h
  · cases h; rfl
  · (cases h), fun x k fs h => by unfold unT2 at h; split at h <;> cases h⟩
theorem cv_T3 : CvOk unT3 := ⟨fun x y h => by
  unfold unT3 at h
  split at h
  · cases h; rfl
  · (cases h), fun x k fs h => by unfold unT3 at h; split at h <;> cases h⟩
theorem cv_T4 : CvOk unT4 := ⟨fun x y h => by
  unfold unT4 at h
  split at h
  · cases h; rfl
  · (cases h), fun x k fs h => by unfold unT4 at h; split at h <;> cases h⟩
theorem cvV {δ : Type} [Emb δ] {m : Res Vl} {g : D → Res δ} (hg : CvOk g) (x : D) (h : Rl vV m (.ok x)) : Rl vV m (g x) := rl_cv x h (fun x y q => congrArg Vl.val (hg.1 x y q)) hg.2
theorem cvVM {δ : Type} [Emb δ] {m : Res Vl} {g : D → Res δ} {r : Res D} (hg : CvOk g) (h : Rl vV m r) : Rl vV m (r.bind g) := rl_cvM h (fun x y q => congrArg Vl.val (hg.1 x y q)) hg.2
theorem cvD {δ : Type} [Emb δ] {m : Res D} {g : D → Res δ} (hg : CvOk g) (x : D) (h : Rl toD m (.ok x)) : Rl toD m (g x) := rl_cv x h (fun x y q => hg.1 x y q) hg.2
theorem cvDM {δ : Type} [Emb δ] {m : Res D} {g : D → Res δ} {r : Res D} (hg : CvOk g) (h : Rl toD m r) : Rl toD m (r.bind g) := rl_cvM h (fun x y q => hg.1 x y q) hg.2
end
/-! raise with values to be found -/
section
variable {c : Ctx} {env : Env}
theorem Z_nil {f : List D → Res (List D)} {r : Res (List D)} (h : f [] = r) : Rl (fun l : List D => l) ((evs c [] env).bind f) r := by
  rw [evs]
  show Rl (fun l : List D => l) (f []) r
  rw [h]
  cases r <;> first | rfl | exact True.intro
theorem Z_of {es : List E} {r : Res (List D)} (h : Rl (fun l : List D => l) ((evs c es env).bind fun ds => .ok ds) r) : Rl (fun l : List D => l) (evs c es env) r := by
  cases q : evs c es env <;> rw [q] at h <;> exact h
end
/-! tuples of any length -/
section
variable {α : Type} [Emb α] {c : Ctx} {env : Env}
theorem y_tuple (xs : List α) : Rl vV (b1 .tup (Emb.d xs)) (.ok (VT.mk xs)) := rfl
theorem y_listV (xs : VT α) : Rl vO (b1 .lst (Emb.d xs)) (.ok xs.l) := rfl
theorem y_lenV (xs : VT α) : Rl vV (b1 .len (Emb.d xs)) (.ok (xs.l.length : Int)) := by
  show ((len (.tup (xs.l.map Emb.d))).bind fun z => Res.ok (Vl.val z)) = _
  simp only [len, List.length_map, Res.bind_ok]
  rfl
theorem y_ixV (xs : VT α) (i : Int) : Rl vV ((index (Emb.d xs) (Emb.d i)).bind fun d => .ok (.val d)) (ixR xs.l i) := y_ixT xs.l i
end
/-! ### lemmas for plain functions -/
section
variable {α β ρ σ : Type}
theorem ixR_ok {xs : List α} {i : Int} {x : α} (h0 : 0 ≤ i) (h : xs[i.toNat]? = some x) : ixR xs i = .ok x := by
  have hl := (List.getElem?_eq_some_iff.mp h).1
  unfold ixR
  rw [ixNat_nn h0 (by omega), Option.bind_some, h]
theorem ixR_nat {xs : List α} {i : Nat} (h : i < xs.length) : ixR xs (i : Int) = .ok xs[i] := ixR_ok (by omega) (by rw [Int.toNat_natCast]; exact List.getElem?_eq_getElem h)
theorem ixR_getD {xs : List α} {i : Int} (d : α) (h0 : 0 ≤ i) (h : i < xs.length) : ixR xs i = .ok (xs.getD i.toNat d) := by
  refine ixR_ok h0 ?_
  rw [List.getD_eq_getElem?_getD, List.getElem?_eq_getElem (by omega), Option.getD_some]
theorem ixR_neg1 {xs : List α} {x : α} (h : xs.getLast? = some x) : ixR xs (-1) = .ok x := by
  have hn : xs ≠ [] := by intro e; rw [e] at h; cases h
  have hp := List.length_pos_iff.mpr hn
  unfold ixR ixNat
  rw [if_neg (by omega), if_pos (by omega), Option.bind_some, show ((-1 : Int) + (xs.length : Int)).toNat = xs.length - 1 by omega, ← List.getLast?_eq_getElem?, h]
theorem setR_ok {xs : List α} {i : Int} (x : α) (h0 : 0 ≤ i) (h : i < xs.length) : setR xs i x = .ok (xs.set i.toNat x) := by
  unfold setR
  rw [ixNat_nn h0 h]
theorem appR_ok {xs : List α} (x : α) (h : xs.length < SL) : appR xs x = .ok (xs ++ [x]) := by unfold appR; exact if_pos h
theorem appL_ok {a b : List α} (h : a.length + b.length ≤ SL) : appL a b = .ok (a ++ b) := by unfold appL; exact if_pos h
theorem rep1_ok {x : α} {n : Int} (h : n < 16777216) (h0 : 0 ≤ n) : rep1 x n = .ok (List.replicate n.toNat x) := by unfold rep1; exact if_pos ⟨by omega, by omega⟩
theorem rngR_ok {a b : Int} (h : -4611686018427387904 ≤ a) (h1 : a < 4611686018427387904) (h2 : -4611686018427387904 ≤ b) (h3 : b < 4611686018427387904) : rngR a b = .ok (daysFrom a (b - a).toNat) := by
  unfold rngR
  rw [inR_s h h1, inR_s h2 h3]
  rfl
theorem rngR_nat {n : Nat} (h : n ≤ 1000000000) : rngR 0 (n : Int) = .ok (daysFrom 0 n) := by
  rw [rngR_ok (by omega) (by omega) (by omega) (by omega), Int.sub_zero, Int.toNat_natCast]
theorem compP_ok {f : α → β} {xs : List α} (h : xs.length ≤ SL) : compP f xs = .ok (xs.map f) := by unfold compP; exact if_pos h
theorem compF_ok {p : α → Bool} {f : α → β} {xs : List α} (h : xs.length ≤ SL) : compF p f xs = .ok ((xs.filter p).map f) := by unfold compF; exact if_pos h
theorem mapR_ok {f : α → Res β} {g : α → β} : ∀ {xs : List α}, (∀ x ∈ xs, f x = .ok (g x)) → mapR f xs = .ok (xs.map g)
  | [], _ => rfl
  | x :: xs, h => by
    unfold mapR
    rw [h x List.mem_cons_self]
    simp only
    rw [mapR_ok fun y hy => h y (List.mem_cons_of_mem _ hy)]
    rfl
theorem compM_ok {f : α → Res β} {xs : List α} (g : α → β) (hl : xs.length ≤ SL) (h : ∀ x ∈ xs, f x = .ok (g x)) : compM f xs = .ok (xs.map g) := by
  unfold compM
  rw [if_pos hl, mapR_ok h]
theorem filR_ok {p : α → Res Bool} {f : α → Res β} {q : α → Bool} {g : α → β} : ∀ {xs : List α}, (∀ x ∈ xs, p x = .ok (q x)) → (∀ x ∈ xs, q x = true → f x = .ok (g x)) → filR p f xs = .ok ((xs.filter q).map g)
  | [], _, _ => rfl
  | x :: xs, h, h2 => by
    have ih := filR_ok (xs := xs) (fun y hy => h y (List.mem_cons_of_mem _ hy)) (fun y hy => h2 y (List.mem_cons_of_mem _ hy))
    unfold filR
    rw [h x List.mem_cons_self]
    cases e : q x with
    | false =>
      simp only
      rw [ih, List.filter_cons, e]
      rfl
    | true =>
      simp only
      rw [h2 x List.mem_cons_self e]
      simp only
      rw [ih, List.filter_cons, e]
      rfl
theorem compG_ok {p : α → Res Bool} {f : α → Res β} {xs : List α} (q : α → Bool) (g : α → β) (hl : xs.length ≤ SL) (h : ∀ x ∈ xs, p x = .ok (q x)) (h2 : ∀ x ∈ xs, q x = true → f x = .ok (g x)) : compG p f xs = .ok ((xs.filter q).map g) := by
  unfold compG
  rw [if_pos hl, filR_ok h h2]
/-- a loop by an invariant over what was walked -/
theorem forF_inv {body : α → σ → Fl ρ σ} (I : List α → σ → Prop) : ∀ (xs done : List α) (s : σ), (∀ done x s, x ∈ xs → I done s → ∃ s', body x s = .nx s' ∧ I (done ++ [x]) s') → I done s → ∃ s', forF body xs s = .nx s' ∧ I (done ++ xs) s'
  | [], done, s, _, h => ⟨s, rfl, by simpa using h⟩
  | x :: xs, done, s, step, h => by
    obtain ⟨s1, h1, h2⟩ := step done x s List.mem_cons_self h
    obtain ⟨s2, h3, h4⟩ := forF_inv I xs (done ++ [x]) s1 (fun d y s hy => step d y s (List.mem_cons_of_mem _ hy)) h2
    exact ⟨s2, by rw [forF_cons, h1, Fl.bind_nx, h3], by simpa using h4⟩
/-- a loop that only counts on -/
theorem forF_fold {body : α → σ → Fl ρ σ} (f : σ → α → σ) : ∀ (xs : List α) (s : σ), (∀ x ∈ xs, ∀ s, body x s = .nx (f s x)) → forF body xs s = .nx (xs.foldl f s)
  | [], s, _ => rfl
  | x :: xs, s, h => by
    rw [forF_cons, h x List.mem_cons_self s, Fl.bind_nx]
    exact forF_fold f xs (f s x) fun y hy => h y (List.mem_cons_of_mem _ hy)
/-- a loop over range -/
theorem forF_rng {body : Int → σ → Fl ρ σ} {n : Nat} {s0 : σ} (I : Nat → σ → Prop) (h0 : I 0 s0) (step : ∀ (i : Nat) (s : σ), i < n → I i s → ∃ s', body (i : Int) s = .nx s' ∧ I (i + 1) s') : ∃ s', forF body (daysFrom 0 n) s0 = .nx s' ∧ I n s' := by
  have go : ∀ (m i : Nat) (s : σ), i + m = n → I i s → ∃ s', forF body (daysFrom (i : Int) m) s = .nx s' ∧ I n s' := by
    intro m
    induction m with
    | zero => exact fun i s e h => ⟨s, rfl, by rw [← e]; exact h⟩
    | succ m ih =>
      intro i s e h
      obtain ⟨s1, h1, h2⟩ := step i s (by omega) h
      obtain ⟨s2, h3, h4⟩ := ih (i + 1) s1 (by omega) h2
      refine ⟨s2, ?_, h4⟩
      have q : daysFrom (i : Int) (m + 1) = (i : Int) :: daysFrom ((i + 1 : Nat) : Int) m := by
        have := daysFrom_add (i : Int) 1 m
        rw [Nat.add_comm m 1, this]
        show [(i : Int) + 0] ++ _ = _
        rw [Int.add_zero]
        rfl
      rw [q, forF_cons, h1, Fl.bind_nx, h3]
  exact go n 0 s0 (by omega) h0
/-- a loop that builds a list -/
theorem forF_app {body : α → List β → Fl ρ (List β)} (f : α → List β) : ∀ (xs : List α) (acc : List β), (∀ x ∈ xs, ∀ acc : List β, acc.length + (f x).length ≤ SL → body x acc = .nx (acc ++ f x)) → acc.length + (xs.flatMap f).length ≤ SL → forF body xs acc = .nx (acc ++ xs.flatMap f)
  | [], acc, _, _ => by simp
  | x :: xs, acc, h, hl => by
    rw [List.flatMap_cons, List.length_append] at hl
    rw [forF_cons, h x List.mem_cons_self acc (by omega), Fl.bind_nx, forF_app f xs (acc ++ f x) (fun y hy => h y (List.mem_cons_of_mem _ hy)) (by rw [List.length_append]; omega), List.flatMap_cons, List.append_assoc]
/-- a loop that looks for a fault -/
theorem forF_unit {body : α → Unit → Fl ρ Unit} : ∀ (xs : List α), (∀ x ∈ xs, body x () = .nx ()) → forF body xs () = .nx ()
  | [], _ => rfl
  | x :: xs, h => by
    rw [forF_cons, h x List.mem_cons_self, Fl.bind_nx]
    exact forF_unit xs fun y hy => h y (List.mem_cons_of_mem _ hy)
theorem forF_find {body : α → Unit → Fl ρ Unit} (p : α → Bool) (r : α → ρ) : ∀ (xs : List α), (∀ x ∈ xs, body x () = if p x = true then .ret (r x) else .nx ()) → forF body xs () = (match xs.find? p with
    | some x => .ret (r x)
    | none => .nx ())
  | [], _ => rfl
  | x :: xs, h => by
    rw [forF_cons, h x List.mem_cons_self, List.find?_cons]
    cases p x
    · exact forF_find p r xs fun y hy => h y (List.mem_cons_of_mem _ hy)
    · rfl
end
end PL

set_option linter.all false
set_option Elab.async false
set_option maxRecDepth 100000
set_option maxHeartbeats 1000000
/-! What a plain function gives, by rules. -/
namespace PL
open PySem (Str)
section
variable {α β γ ρ σ τ : Type}
/-- it gives something of the kind -/
def Gv (r : Res α) (P : α → Prop) : Prop := ∃ a, r = .ok a ∧ P a
def GvF (f : Fl ρ σ) (P : σ → Prop) (R : ρ → Prop) : Prop := (∃ s, f = .nx s ∧ P s) ∨ (∃ r, f = .ret r ∧ R r)
variable {r : Res α} {P : α → Prop} {Q : β → Prop} {f : Fl ρ σ} {S' : σ → Prop} {R : ρ → Prop}
theorem gv (a : α) (h : r = .ok a) (h2 : P a) : Gv r P := ⟨a, h, h2⟩
theorem gv_ok {a : α} (h : P a) : Gv (.ok a) P := ⟨a, rfl, h⟩
theorem Gv.imp {P' : α → Prop} (h : Gv r P) (h2 : ∀ a, P a → P' a) : Gv r P' := by obtain ⟨a, e, h⟩ := h; exact ⟨a, e, h2 a h⟩
theorem Gv.eq {a : α} (h : Gv r (· = a)) : r = .ok a := by obtain ⟨b, e, h⟩ := h; rw [e, h]
theorem gb {k : α → Res β} (h : Gv r P) (h2 : ∀ a, P a → Gv (k a) Q) : Gv (r.bind k) Q := by
  obtain ⟨a, e, h⟩ := h
  rw [e]
  exact h2 a h
theorem gb_eq {k : α → Res β} (a : α) (h : r = .ok a) (h2 : Gv (k a) Q) : Gv (r.bind k) Q := by rw [h]; exact h2
theorem gfl {k : α → Fl ρ σ} (h : Gv r P) (h2 : ∀ a, P a → GvF (k a) S' R) : GvF (r.fl k) S' R := by
  obtain ⟨a, e, h⟩ := h
  rw [e]
  exact h2 a h
theorem gfl_eq {k : α → Fl ρ σ} (a : α) (h : r = .ok a) (h2 : GvF (k a) S' R) : GvF (r.fl k) S' R := by rw [h]; exact h2
theorem gok {k : α → Fl ρ σ} {a : α} (h2 : GvF (k a) S' R) : GvF ((Res.ok a).fl k) S' R := h2
theorem gfb {k : σ → Fl ρ τ} {T' : τ → Prop} (h : GvF f S' R) (h2 : ∀ s, S' s → GvF (k s) T' R) : GvF (f.bind k) T' R := by
  rcases h with ⟨s, e, h⟩ | ⟨x, e, h⟩
  · rw [e]; exact h2 s h
  · rw [e]; exact .inr ⟨x, rfl, h⟩
theorem gnx {s : σ} (h : S' s) : GvF (.nx s : Fl ρ σ) S' R := .inl ⟨s, rfl, h⟩
theorem gret {x : ρ} (h : R x) : GvF (.ret x : Fl ρ σ) S' R := .inr ⟨x, rfl, h⟩
theorem gfret {r : Res ρ} (h : Gv r R) : GvF (r.fl .ret : Fl ρ σ) S' R := by
  obtain ⟨a, e, h⟩ := h
  rw [e]
  exact gret h
theorem grun (h : GvF f (fun _ => False) R) : Gv f.run R := by
  rcases h with ⟨s, e, h⟩ | ⟨x, e, h⟩
  · exact h.elim
  · rw [e]; exact ⟨x, rfl, h⟩
theorem grunN {n : ρ} (h : GvF f (fun _ => R n) R) : Gv (f.runN n) R := by
  rcases h with ⟨s, e, h⟩ | ⟨x, e, h⟩
  · rw [e]; exact ⟨n, rfl, h⟩
  · rw [e]; exact ⟨x, rfl, h⟩
theorem gif {b : Bool} {f g : Fl ρ σ} (h1 : b = true → GvF f S' R) (h2 : b = false → GvF g S' R) : GvF (if b = true then f else g) S' R := by
  cases b
  · exact h2 rfl
  · exact h1 rfl
theorem gifR {b : Bool} {r s : Res α} (h1 : b = true → Gv r P) (h2 : b = false → Gv s P) : Gv (if b = true then r else s) P := by
  cases b
  · exact h2 rfl
  · exact h1 rfl
theorem GvF.imp {S2 : σ → Prop} {R2 : ρ → Prop} (h : GvF f S' R) (h1 : ∀ s, S' s → S2 s) (h2 : ∀ x, R x → R2 x) : GvF f S2 R2 := by
  rcases h with ⟨s, e, h⟩ | ⟨x, e, h⟩
  · exact .inl ⟨s, e, h1 s h⟩
  · exact .inr ⟨x, e, h2 x h⟩
/-- a loop by an invariant -/
theorem gfor {body : α → σ → Fl ρ σ} {xs : List α} {s0 : σ} (I : σ → Prop) (h0 : I s0) (h : ∀ x s, x ∈ xs → I s → GvF (body x s) I R) : GvF (forF body xs s0) I R := by
  induction xs generalizing s0 with
  | nil => exact gnx h0
  | cons x xs ih =>
    rw [forF_cons]
    exact gfb (h x s0 List.mem_cons_self h0) fun s hs => ih hs fun y s hy => h y s (List.mem_cons_of_mem _ hy)
/-- a loop by an invariant that knows how far it is -/
theorem gfor_at {body : α → σ → Fl ρ σ} {xs : List α} {s0 : σ} (I : Nat → σ → Prop) (h0 : I 0 s0) (h : ∀ (i : Nat) x s, xs[i]? = some x → I i s → GvF (body x s) (I (i + 1)) R) : GvF (forF body xs s0) (I xs.length) R := by
  induction xs generalizing s0 I with
  | nil => exact gnx h0
  | cons x xs ih =>
    rw [forF_cons]
    refine gfb (h 0 x s0 rfl h0) fun s hs => ?_
    exact ih (fun i => I (i + 1)) hs fun i y s hy => h (i + 1) y s hy
theorem gfor_rng {body : Int → σ → Fl ρ σ} {n : Nat} {s0 : σ} (I : Nat → σ → Prop) (h0 : I 0 s0) (h : ∀ (i : Nat) s, i < n → I i s → GvF (body (i : Int) s) (I (i + 1)) R) : GvF (forF body (daysFrom 0 n) s0) (I n) R := by
  have := gfor_at (R := R) (body := body) (xs := daysFrom 0 n) I h0 fun i x s hx hi => by
    have hl := (List.getElem?_eq_some_iff.mp hx).1
    rw [daysFrom_len] at hl
    rw [daysFrom_get 0 n i hl] at hx
    cases hx
    rw [Int.zero_add]
    exact h i s hl hi
  rw [daysFrom_len] at this
  exact this
theorem gmap {f : α → Res β} {Q : β → Prop} : ∀ {xs : List α}, (∀ x ∈ xs, Gv (f x) Q) → Gv (mapR f xs) fun ys => ys.length = xs.length ∧ ∀ y ∈ ys, Q y
  | [], _ => gv_ok ⟨rfl, fun y h => by cases h⟩
  | x :: xs, h => by
    obtain ⟨y, e, hy⟩ := h x List.mem_cons_self
    obtain ⟨ys, e2, h1, h2⟩ := gmap (xs := xs) fun z hz => h z (List.mem_cons_of_mem _ hz)
    refine ⟨y :: ys, by unfold mapR; rw [e]; simp only; rw [e2]; rfl, by rw [List.length_cons, List.length_cons, h1], fun z hz => ?_⟩
    rcases List.mem_cons.mp hz with rfl | hz
    · exact hy
    · exact h2 z hz
theorem gcompM {f : α → Res β} {Q : β → Prop} {xs : List α} (hl : xs.length ≤ SL) (h : ∀ x ∈ xs, Gv (f x) Q) : Gv (compM f xs) fun ys => ys.length = xs.length ∧ ∀ y ∈ ys, Q y := by
  unfold compM
  rw [if_pos hl]
  exact gmap h
theorem gfil {p : α → Res Bool} {f : α → Res β} {Q : β → Prop} : ∀ {xs : List α}, (∀ x ∈ xs, Gv (p x) fun b => b = true → Gv (f x) Q) → Gv (filR p f xs) fun ys => ys.length ≤ xs.length ∧ ∀ y ∈ ys, Q y
  | [], _ => gv_ok ⟨Nat.le_refl _, fun y h => by cases h⟩
  | x :: xs, h => by
    obtain ⟨b, e, hb⟩ := h x List.mem_cons_self
    obtain ⟨ys, e2, h1, h2⟩ := gfil (xs := xs) fun z hz => h z (List.mem_cons_of_mem _ hz)
    cases b with
    | false => exact ⟨ys, by unfold filR; rw [e]; exact e2, by rw [List.length_cons]; omega, h2⟩
    | true =>
      obtain ⟨y, e3, hy⟩ := hb rfl
      refine ⟨y :: ys, by unfold filR; rw [e]; simp only; rw [e3]; simp only; rw [e2]; rfl, by rw [List.length_cons, List.length_cons]; omega, fun z hz => ?_⟩
      rcases List.mem_cons.mp hz with rfl | hz
      · exact hy
      · exact h2 z hz
theorem gcompG {p : α → Res Bool} {f : α → Res β} {Q : β → Prop} {xs : List α} (hl : xs.length ≤ SL) (h : ∀ x ∈ xs, Gv (p x) fun b => b = true → Gv (f x) Q) : Gv (compG p f xs) fun ys => ys.length ≤ xs.length ∧ ∀ y ∈ ys, Q y := by
  unfold compG
  rw [if_pos hl]
  exact gfil h
/-! the small ones -/
theorem gix {xs : List α} {i : Int} (h0 : 0 ≤ i) (h : i < xs.length) : Gv (ixR xs i) fun x => xs[i.toNat]? = some x := by
  refine ⟨xs[i.toNat]'(by omega), ixR_ok h0 (List.getElem?_eq_getElem (by omega)), List.getElem?_eq_getElem (by omega)⟩
theorem gapp {xs : List α} {x : α} (h : xs.length < SL) : Gv (appR xs x) (· = xs ++ [x]) := ⟨_, appR_ok x h, rfl⟩
theorem gappL {a b : List α} (h : a.length + b.length ≤ SL) : Gv (appL a b) (· = a ++ b) := ⟨_, appL_ok h, rfl⟩
theorem gset {xs : List α} {i : Int} {x : α} (h0 : 0 ≤ i) (h : i < xs.length) : Gv (setR xs i x) (· = xs.set i.toNat x) := ⟨_, setR_ok x h0 h, rfl⟩
theorem grng {n : Int} (h0 : 0 ≤ n) (h : n ≤ 1000000000) : Gv (rngR 0 n) (· = daysFrom 0 n.toNat) := ⟨_, by rw [rngR_ok (by omega) (by omega) (by omega) (by omega), Int.sub_zero], rfl⟩
theorem grng2 {a b : Int} (h0 : -1000000000 ≤ a) (h : a ≤ 1000000000) (h2 : -1000000000 ≤ b) (h3 : b ≤ 1000000000) : Gv (rngR a b) (· = daysFrom a (b - a).toNat) := ⟨_, rngR_ok (by omega) (by omega) (by omega) (by omega), rfl⟩
theorem gcompGr {p : Int → Res Bool} {f : Int → Res β} {Q : β → Prop} {n : Int} (h0 : 0 ≤ n) (h : n ≤ 1000000) (hq : ∀ x, 0 ≤ x → x < n → Gv (p x) fun b => b = true → Gv (f x) Q) : Gv ((rngR 0 n).bind fun xs => compG p f xs) fun ys => ys.length ≤ n.toNat ∧ ∀ y ∈ ys, Q y := by
  have hS := SLe
  refine gb (grng h0 (by omega)) fun xs e => ?_
  subst e
  refine (gcompG (by rw [daysFrom_len]; omega) fun x hx => ?_).imp fun ys h => by rw [daysFrom_len] at h; exact h
  have := daysFrom_mem hx
  exact hq x (by omega) (by omega)
theorem gcompMr {f : Int → Res β} {Q : β → Prop} {n : Int} (h0 : 0 ≤ n) (h : n ≤ 1000000) (hq : ∀ x, 0 ≤ x → x < n → Gv (f x) Q) : Gv ((rngR 0 n).bind fun xs => compM f xs) fun ys => ys.length = n.toNat ∧ ∀ y ∈ ys, Q y := by
  have hS := SLe
  refine gb (grng h0 (by omega)) fun xs e => ?_
  subst e
  refine (gcompM (by rw [daysFrom_len]; omega) fun x hx => ?_).imp fun ys h => by rw [daysFrom_len] at h; exact h
  have := daysFrom_mem hx
  exact hq x (by omega) (by omega)
theorem modR_ok {a b : Int} (h : 0 < b) : modR a b = .ok (a % b) := by
  unfold modR
  rw [if_neg (by omega), Int.fmod_eq_emod_of_nonneg a (by omega)]
theorem divR_ok {a b : Int} (h : 0 < b) : divR a b = .ok (a / b) := by
  unfold divR
  rw [if_neg (by omega), Int.fdiv_eq_ediv_of_nonneg a (by omega)]
theorem mulR_l {a b : Int} (h : -18446744073709551616 < a) (h2 : a < 18446744073709551616) : mulR a b = .ok (a * b) := by
  unfold mulR
  rw [if_pos (mul_l h h2)]
theorem mulR_r {a b : Int} (h : -18446744073709551616 < b) (h2 : b < 18446744073709551616) : mulR a b = .ok (a * b) := by
  unfold mulR
  rw [if_pos (mul_r h h2)]
theorem grep1 {x : α} {n : Int} (h0 : 0 ≤ n) (h : n < 16777216) : Gv (rep1 x n) (· = List.replicate n.toNat x) := ⟨_, rep1_ok h h0, rfl⟩
theorem cutL_len {α : Type} (xs : List α) (lo hi : Option Int) : (cutL xs lo hi).length ≤ xs.length := by
  unfold cutL
  rw [List.length_take, List.length_drop]
  omega
theorem cutL_two {α : Type} (xs : List α) (i j : Int) (h0 : 0 ≤ i) (h1 : i ≤ j) (h2 : j ≤ xs.length) : cutL xs (some i) (some j) = (xs.drop i.toNat).take (j - i).toNat := by
  unfold cutL cutIx
  simp only
  rw [if_neg (by omega), if_neg (by omega), Nat.min_eq_left (by omega), Nat.min_eq_left (by omega)]
  congr 1
  omega
end
end PL

set_option linter.all false
set_option Elab.async false
set_option maxRecDepth 100000
set_option maxHeartbeats 1000000
/-! The typed layer: what is one's own within one's own; what is found while lists stand still. -/
namespace PL
open PySem (Str)
def sumD {α β : Type} [Emb α] [Emb β] : α ⊕ β → D
  | .inl x => Emb.d x
  | .inr y => Emb.d y
instance {α β : Type} [Emb α] [Emb β] : Emb (α ⊕ β) := ⟨sumD⟩
section
variable {α β γ δ ε : Type}
def owD [Emb α] (x : α) : Ow := .dat (Emb.d x)
def owL [Emb α] (xs : List α) : Ow := .lst (xs.map fun x => .dat (Emb.d x))
def owLL (f : α → Ow) (xs : List α) : Ow := .lst (xs.map f)
def owT2 (f : α → Ow) (g : β → Ow) (p : α × β) : Ow := .tup [f p.1, g p.2]
def owT3 (f : α → Ow) (g : β → Ow) (h : γ → Ow) (p : T3 α β γ) : Ow := .tup [f p.a, g p.b, h p.c]
def owT4 (f : α → Ow) (g : β → Ow) (h : γ → Ow) (i : δ → Ow) (p : T4 α β γ δ) : Ow := .tup [f p.a, g p.b, h p.c, i p.d]
def owS (f : α → Ow) (g : β → Ow) : α ⊕ β → Ow
  | .inl x => f x
  | .inr y => g y
def OwF [Emb α] (f : α → Ow) : Prop := ∀ x, (f x).d = Emb.d x
theorem owD_ok [Emb α] : OwF (owD (α := α)) := fun x => by rw [owD, Ow.d]
theorem ds_map (f : α → Ow) : ∀ xs : List α, Ow.ds (xs.map f) = xs.map fun x => (f x).d
  | [] => by simp [Ow.ds]
  | x :: xs => by rw [List.map_cons, Ow.ds, ds_map f xs, List.map_cons]
theorem owL_ok [Emb α] : OwF (owL (α := α)) := fun xs => by
  rw [owL, Ow.d, ds_map]
  simp only [Ow.d]
  rfl
theorem owLL_ok [Emb α] {f : α → Ow} (h : OwF f) : OwF (owLL f) := fun xs => by
  rw [owLL, Ow.d, ds_map]
  show D.lst _ = D.lst _
  congr 1
  exact List.map_congr_left fun x _ => h x
theorem owT2_ok [Emb α] [Emb β] {f : α → Ow} {g : β → Ow} (h1 : OwF f) (h2 : OwF g) : OwF (owT2 f g) := fun p => by
  rw [owT2, Ow.d]
  simp only [Ow.ds, h1 p.1, h2 p.2]
  rfl
theorem owT3_ok [Emb α] [Emb β] [Emb γ] {f : α → Ow} {g : β → Ow} {h : γ → Ow} (h1 : OwF f) (h2 : OwF g) (h3 : OwF h) : OwF (owT3 f g h) := fun p => by
  rw [owT3, Ow.d]
  simp only [Ow.ds, h1 p.a, h2 p.b, h3 p.c]
  rfl
theorem owT4_ok [Emb α] [Emb β] [Emb γ] [Emb δ] {f : α → Ow} {g : β → Ow} {h : γ → Ow} {i : δ → Ow} (h1 : OwF f) (h2 : OwF g) (h3 : OwF h) (h4 : OwF i) : OwF (owT4 f g h i) := fun p => by
  rw [owT4, Ow.d]
  simp only [Ow.ds, h1 p.a, h2 p.b, h3 p.c, h4 p.d]
  rfl
theorem owS_ok [Emb α] [Emb β] {f : α → Ow} {g : β → Ow} (h1 : OwF f) (h2 : OwF g) : OwF (owS f g) := fun s => by
  cases s with
  | inl x => exact h1 x
  | inr y => exact h2 y
abbrev rD (f : α → Ow) (x : α) : Rt := .dp (f x)
abbrev sD (f : α → Ow) (x : α) : Sl := .dp (f x)
theorem c_d [Emb α] {f' : α → Ow} {c : Ctx} {f : Nat} {ds : List D} {r : Res α} (hf : OwF f') (h : Rl (rD f') (c.callx f ds) r) : Rl vV (c.call f ds) r := by
  unfold Ctx.call
  cases r with
  | ok a => rw [h.eq]; show Res.ok (Vl.val _) = Res.ok (Vl.val _); rw [hf a]
  | err k fs => rw [show c.callx f ds = .err k fs from h]; rfl
  | bad => trivial
/-! values of which the parts are one's own -/
variable {c : Ctx} {env : Env} {i : Nat}
theorem W_e [Emb α] {e : E} {r : Res α} (h : Rl vV (ev c e env) r) : Rl owD (oev c (.e e) env) r := by
  rw [oev]
  cases r with
  | ok a => rw [h.eq]; rfl
  | err k fs => rw [show ev c e env = .err k fs from h]; rfl
  | bad => trivial
theorem W_o [Emb α] {e : E} {r : Res (List α)} (h : Rl vO (ev c e env) r) : Rl owL (oev c (.e e) env) r := by
  rw [oev]
  cases r with
  | ok a =>
    rw [h.eq]
    show Res.ok (Ow.lst ((a.map Emb.d).map .dat)) = Res.ok (Ow.lst _)
    rw [List.map_map]
    rfl
  | err k fs => rw [show ev c e env = .err k fs from h]; rfl
  | bad => trivial
theorem W_sV [Emb α] (x : α) (h : env[i]? = some (sV x)) : Rl owD (oev c (.s i) env) (.ok x) := by
  rw [oev, h]
  rfl
theorem W_sO [Emb α] (x : List α) (h : env[i]? = some (sO x)) : Rl owL (oev c (.s i) env) (.ok x) := by
  rw [oev, h]
  show Res.ok (Ow.lst ((x.map Emb.d).map .dat)) = Res.ok (Ow.lst _)
  rw [List.map_map]
  rfl
theorem W_sD {f : α → Ow} (x : α) (h : env[i]? = some (sD f x)) : Rl f (oev c (.s i) env) (.ok x) := by
  rw [oev, h]
  rfl
theorem J_nil {γ' δ' : Type} {f : List Ow → Res δ'} {r : Res γ'} {W : γ' → δ'} (h : Rl W (f []) r) : Rl W ((oevs c [] env).bind f) r := by rw [oevs]; exact h
theorem J_cons {γ' δ' : Type} {e : OE} {es : List OE} {f : List Ow → Res δ'} {r : Res γ'} {W : γ' → δ'} (h : Rl W ((oev c e env).bind fun x => (oevs c es env).bind fun os => f (x :: os)) r) : Rl W ((oevs c (e :: es) env).bind f) r := by
  rw [oevs]
  simp only [bind_assoc, Res.bind_ok]
  exact h
theorem W_tup {es : List OE} {F : α → Ow} {r : Res α} (h : Rl F ((oevs c es env).bind fun os => if os.length ≤ SL then .ok (.tup os) else .bad) r) : Rl F (oev c (.tup es) env) r := by rw [oev]; exact h
theorem W_lst {es : List OE} {F : α → Ow} {r : Res α} (h : Rl F ((oevs c es env).bind fun os => if os.length ≤ SL then .ok (.lst os) else .bad) r) : Rl F (oev c (.lst es) env) r := by rw [oev]; exact h
theorem W_fin {os : List Ow} {F : α → Ow} {x : α} (h : os.length ≤ SL) (hx : F x = .tup os) : Rl F (if os.length ≤ SL then .ok (.tup os) else .bad) (.ok x) := by
  rw [if_pos h]
  show _ = Res.ok (F x)
  rw [hx]
theorem W_finL {os : List Ow} {F : α → Ow} {x : α} (h : os.length ≤ SL) (hx : F x = .lst os) : Rl F (if os.length ≤ SL then .ok (.lst os) else .bad) (.ok x) := by
  rw [if_pos h]
  show _ = Res.ok (F x)
  rw [hx]
theorem W_call {f : Nat} {es : List A} {F : α → Ow} {r : Res α} (h : Rl F ((args c es env).bind fun ds => (c.callx f ds).bind fun r => .ok (rtO r)) r) : Rl F (oev c (.call f es) env) r := by rw [oev]; exact h
theorem w_v [Emb α] {f : Nat} {ds : List D} {r : Res α} (h : Rl rV (c.callx f ds) r) : Rl owD ((c.callx f ds).bind fun r => .ok (rtO r)) r := by
  cases r with
  | ok a => rw [h.eq]; rfl
  | err k fs => rw [show c.callx f ds = .err k fs from h]; rfl
  | bad => trivial
theorem w_o [Emb α] {f : Nat} {ds : List D} {r : Res (List α)} (h : Rl rO (c.callx f ds) r) : Rl owL ((c.callx f ds).bind fun r => .ok (rtO r)) r := by
  cases r with
  | ok a =>
    rw [h.eq]
    show Res.ok (Ow.lst ((a.map Emb.d).map .dat)) = Res.ok (Ow.lst _)
    rw [List.map_map]
    rfl
  | err k fs => rw [show c.callx f ds = .err k fs from h]; rfl
  | bad => trivial
theorem w_d {F : α → Ow} {f : Nat} {ds : List D} {r : Res α} (h : Rl (rD F) (c.callx f ds) r) : Rl F ((c.callx f ds).bind fun r => .ok (rtO r)) r := by
  cases r with
  | ok a => rw [h.eq]; rfl
  | err k fs => rw [show c.callx f ds = .err k fs from h]; rfl
  | bad => trivial
end
/-! statements -/
section
variable {α β ρ σ : Type} {V : ρ → Rt} {P : σ → Env → Prop} {Q : Env → Prop} {j : Nat} {c : Ctx} {env env1 : Env} {fr tf : List Nat} {rest : List S} {i : Nat} {e : E}
theorem M_asgo {F : α → Ow} {x : OE} {r : Res α} {k : α → Fl ρ σ} {env2 : α → Env} (hf : frz fr env = env1) (ho : oeSl x = []) (hq : Q env1) (he : Rl F (oev c x env1) r) (hs : ∀ x, env1.set i (owSl (F x)) = env2 x) (h : ∀ x, Sim j V P Q (exss c rest (env2 x)) (k x)) : Sim j V P Q (exss c (.asgo fr i x :: rest) env) (r.fl k) := by
  cases r with
  | ok a =>
    have e1 : exs c (.asgo fr i x) env = .nx (env2 a) := by simp only [exs, hf, ho, if_true, he.eq, Res.to_ok, hs]
    rw [exss_nx e1]
    exact h a
  | err n fs =>
    have he : oev c x env1 = .err n fs := he
    exact ⟨env1, by simp only [exss, exs, hf, ho, if_true, he, Res.to_err, Out.seq_err], hq⟩
  | bad => trivial
theorem M_asgot {F : α → Ow} {x : OE} {is : List Nat} {r : Res α} {k : α → Fl ρ σ} {os : α → List Ow} {env2 : α → Env} (hf : frz fr env = env1) (ho : oeSl x = []) (hq : Q env1) (he : Rl F (oev c x env1) r) (hF : ∀ x, F x = .tup (os x)) (hs : ∀ x, setOs is (os x) env1 = some (env2 x)) (h : ∀ x, Sim j V P Q (exss c rest (env2 x)) (k x)) : Sim j V P Q (exss c (.asgot fr is x :: rest) env) (r.fl k) := by
  cases r with
  | ok a =>
    have e1 : exs c (.asgot fr is x) env = .nx (env2 a) := by simp only [exs, hf, ho, if_true, he.eq, Res.to_ok, hF, hs]
    rw [exss_nx e1]
    exact h a
  | err n fs =>
    have he : oev c x env1 = .err n fs := he
    exact ⟨env1, by simp only [exss, exs, hf, ho, if_true, he, Res.to_err, Out.seq_err], hq⟩
  | bad => trivial
theorem M_retd {F : ρ → Ow} {x : OE} {r : Res ρ} (hV : ∀ x, V x = .dp (F x)) (hn : (oeSl x).Nodup) (hf : frz fr env = env1) (hq : Q env1) (he : Rl F (oev c x env1) r) : Sim j V P Q (exss c (.retd fr x :: rest) env) (r.fl .ret : Fl ρ σ) := by
  cases r with
  | ok a =>
    show exss _ _ _ = outOf (V a)
    rw [hV]
    simp only [exss, exs, hf, hn, if_true, he.eq, Res.to_ok, Out.seq_rtd]
    rfl
  | err n fs =>
    have he : oev c x env1 = .err n fs := he
    exact ⟨env1, by simp only [exss, exs, hf, hn, if_true, he, Res.to_err, Out.seq_err], hq⟩
  | bad => trivial
/-- what is there, or nothing is claimed -/
def _root_.PL.Res.okl {τ : Type} (r : Res α) (k : α → Fl ρ τ) : Fl ρ τ := match r with
  | .ok a => k a
  | _ => .bad
@[simp] theorem Res.okl_ok {τ : Type} (a : α) (k : α → Fl ρ τ) : (Res.ok a).okl k = k a := rfl
def unR {α β : Type} : α ⊕ β → Res β
  | .inr y => .ok y
  | .inl _ => .bad
def unLf {α β : Type} : α ⊕ β → Res α
  | .inl y => .ok y
  | .inr _ => .bad
theorem sim_unR {γ δ : Type} {s : γ ⊕ δ} {o : Out} {k : δ → Fl ρ σ} (h : ∀ y, s = .inr y → Sim j V P Q o (k y)) : Sim j V P Q o ((unR s).fl k) := by
  cases s with
  | inr y => exact h y rfl
  | inl x => trivial
theorem sim_unLf {γ δ : Type} {s : γ ⊕ δ} {o : Out} {k : γ → Fl ρ σ} (h : ∀ y, s = .inl y → Sim j V P Q o (k y)) : Sim j V P Q o ((unLf s).fl k) := by
  cases s with
  | inl y => exact h y rfl
  | inr x => trivial
theorem M_appd {β : Type} [Emb β] {ks : List Ky} {w : Ow} {is : List Int} {ys : List β} {r : Res β} {k : List β → Fl ρ σ} {env2 : List β → Env} {w' : List β → Ow} (hf : frz fr env = env1) (hx : env1[i]? = some (.dp w)) (hk : keysI env1 ks = some is) (hn : nav w is = some (owL ys)) (he : Rl vV (ev c e (frz tf env1)) r) (hfl : ∀ v : β, flatD (Emb.d v) = true)
    (hp : ∀ zs : List β, putO w is (owL zs) = some (w' zs)) (hs : ∀ zs, env1.set i (.dp (w' zs)) = env2 zs) (h : ∀ zs, Sim j V P Q (exss c rest (env2 zs)) (k zs)) : Sim j V P Q (exss c (.appd fr tf i ks e :: rest) env) (r.okl fun v => (appR ys v).fl k) := by
  cases r with
  | ok v =>
    show Sim j V P Q _ ((appR ys v).fl k)
    unfold appR
    by_cases q : ys.length < SL
    · rw [if_pos q]
      have p1 := hp (ys ++ [v])
      unfold owL at hn p1
      rw [List.map_append] at p1
      have q' : flatD (Emb.d v) = true ∧ (ys.map fun x => Ow.dat (Emb.d x)).length < SL := ⟨hfl v, by rw [List.length_map]; exact q⟩
      have e1 : exs c (.appd fr tf i ks e) env = .nx (env2 (ys ++ [v])) := by
        simp only [exs, hf, hx, hk, hn, he.eq, toT_ok]
        rw [if_pos q']
        have p1 : putO w is (.lst (ys.map (fun x => Ow.dat (Emb.d x)) ++ [.dat (Emb.d v)])) = some (w' (ys ++ [v])) := p1
        simp only [p1, hs]
      rw [exss_nx e1]
      exact h _
    · rw [if_neg q]
      trivial
  | err n fs => trivial
  | bad => trivial
theorem M_asgT {β : Type} [Emb β] {r : Res β} {k : β → Fl ρ σ} {env2 : β → Env} (hf : frz fr env = env1) (he : Rl vV (ev c e (frz tf env1)) r) (hfl : ∀ v : β, flatD (Emb.d v) = true) (hs : ∀ x, env1.set i (sV x) = env2 x) (h : ∀ x, Sim j V P Q (exss c rest (env2 x)) (k x)) : Sim j V P Q (exss c (.asgT fr tf i e :: rest) env) (r.okl k) := by
  cases r with
  | ok v =>
    have hs : env1.set i (.val (Emb.d v)) = env2 v := hs v
    have e1 : exs c (.asgT fr tf i e) env = .nx (env2 v) := by
      simp only [exs, hf, he.eq, toT_ok]
      rw [if_pos (hfl v), hs]
    rw [exss_nx e1]
    exact h v
  | err n fs => trivial
  | bad => trivial
theorem M_asgTO {β : Type} [Emb β] {r : Res (List β)} {k : List β → Fl ρ σ} {env2 : List β → Env} (hf : frz fr env = env1) (he : Rl vO (ev c e (frz tf env1)) r) (hfl : ∀ v : β, flatD (Emb.d v) = true) (hs : ∀ x, env1.set i (sO x) = env2 x) (h : ∀ x, Sim j V P Q (exss c rest (env2 x)) (k x)) : Sim j V P Q (exss c (.asgT fr tf i e :: rest) env) (r.okl k) := by
  cases r with
  | ok v =>
    have hs : env1.set i (.own (v.map Emb.d)) = env2 v := hs v
    have hq : (v.map Emb.d).all flatD = true := by
      rw [List.all_map, List.all_eq_true]
      exact fun x _ => hfl x
    have e1 : exs c (.asgT fr tf i e) env = .nx (env2 v) := by
      simp only [exs, hf, he.eq, toT_ok, vO]
      rw [if_pos hq, hs]
    rw [exss_nx e1]
    exact h v
  | err n fs => trivial
  | bad => trivial
theorem M_exT {r : Res α} {W : α → Vl} {k : α → Fl ρ σ} (hf : frz fr env = env1) (he : Rl W (ev c e (frz tf env1)) r) (h : ∀ x, Sim j V P Q (exss c rest env1) (k x)) : Sim j V P Q (exss c (.exT fr tf e :: rest) env) (r.okl k) := by
  cases r with
  | ok v =>
    have e1 : exs c (.exT fr tf e) env = .nx env1 := by simp only [exs, hf, he.eq, toT_ok]
    rw [exss_nx e1]
    exact h v
  | err n fs => trivial
  | bad => trivial
theorem M_retT [Emb ρ] {r : Res ρ} (hV : ∀ x, V x = .v (vV x)) (hfl : ∀ v : ρ, flatD (Emb.d v) = true) (hf : frz fr env = env1) (he : Rl vV (ev c e (frz tf env1)) r) : Sim j V P Q (exss c (.retT fr tf e :: rest) env) (r.okl .ret : Fl ρ σ) := by
  cases r with
  | ok v =>
    show exss _ _ _ = outOf (V v)
    rw [hV]
    have e1 : exs c (.retT fr tf e) env = .ret (vV v) := by
      simp only [exs, hf, he.eq, toT_ok]
      rw [if_pos (hfl v)]
    exact exss_ret e1
  | err n fs => trivial
  | bad => trivial
variable {t : T} {a b : List S}
theorem M_ifJT {r : Res Bool} {fa f : Fl ρ σ} (hf : frz fr env = env1) (ht : Rl idB (tv c t (frz tf env1)) r) (h1 : Sim (jm j) V P Q (exss c a env1) fa) (h2 : Sim j V P Q (exss c rest env1) f) : Sim j V P Q (exss c (.iteT fr tf t a [] :: rest) env) (r.okl fun x => if x = true then fa else f) := by
  cases r with
  | ok x =>
    have ht : tv c t (frz tf env1) = .ok x := ht
    simp only [exss, exs, hf, ht, toT_ok]
    cases x
    · simp only [Bool.false_eq_true, if_false, Out.seq_nx]; exact h2
    · simp only [if_true]; exact sim_jump h1
  | err n fs => trivial
  | bad => trivial
theorem M_ifJJT {r : Res Bool} {fa fb : Fl ρ σ} (hf : frz fr env = env1) (ht : Rl idB (tv c t (frz tf env1)) r) (h1 : Sim (jm j) V P Q (exss c a env1) fa) (h2 : Sim (jm j) V P Q (exss c b env1) fb) : Sim j V P Q (exss c (.iteT fr tf t a b :: rest) env) (r.okl fun x => if x = true then fa else fb) := by
  cases r with
  | ok x =>
    have ht : tv c t (frz tf env1) = .ok x := ht
    simp only [exss, exs, hf, ht, toT_ok]
    cases x
    · exact sim_jump h2
    · exact sim_jump h1
  | err n fs => trivial
  | bad => trivial
theorem M_ifNT {σ' : Type} (P' : σ' → Env → Prop) {r : Res Bool} {fa fb : Fl ρ σ'} {k : σ' → Fl ρ σ} (hf : frz fr env = env1) (ht : Rl idB (tv c t (frz tf env1)) r) (h1 : Sim 0 V P' Q (exss c a env1) fa) (h2 : Sim 0 V P' Q (exss c b env1) fb) (h : ∀ s e, P' s e → Sim j V P Q (exss c rest e) (k s)) : Sim j V P Q (exss c (.iteT fr tf t a b :: rest) env) ((r.okl fun x => if x = true then fa else fb).bind k) := by
  cases r with
  | ok x =>
    have ht : tv c t (frz tf env1) = .ok x := ht
    simp only [exss, exs, hf, ht, toT_ok]
    cases x
    · exact sim_bind h2 h
    · exact sim_bind h1 h
  | err n fs => trivial
  | bad => trivial
theorem frz_dp {F : α → Ow} [Emb α] (hF : OwF F) {x : α} (h : env[i]? = some (sD F x)) : frz [i] env = env.set i (sV x) := by
  simp only [frz, List.foldl_cons, List.foldl_nil, frz1, h]
  show env.set i (.val (F x).d) = _
  rw [hF x]
theorem T_E {F : α → Ow} [Emb α] (hF : OwF F) {x : α} (h : env[i]? = some (sD F x)) {γ : Type} {W : γ → Vl} {r : Res γ} (p : Rl W (ev c e (env.set i (sV x))) r) : Rl W (ev c e (frz [i] env)) r := by rw [frz_dp hF h]; exact p
theorem T_T {F : α → Ow} [Emb α] (hF : OwF F) {x : α} (h : env[i]? = some (sD F x)) {γ : Type} {W : γ → Bool} {r : Res γ} (p : Rl W (tv c t (env.set i (sV x))) r) : Rl W (tv c t (frz [i] env)) r := by rw [frz_dp hF h]; exact p
theorem W_inl {α β : Type} {f : α → Ow} {g : β → Ow} {o : Res Ow} {x : α} (h : Rl f o (.ok x)) : Rl (owS f g) o (.ok (.inl x)) := h
theorem W_inr {α β : Type} {f : α → Ow} {g : β → Ow} {o : Res Ow} {x : β} (h : Rl g o (.ok x)) : Rl (owS f g) o (.ok (.inr x)) := h
theorem W_inlM {α β : Type} {f : α → Ow} {g : β → Ow} {o : Res Ow} {r : Res α} (h : Rl f o r) : Rl (owS f g) o (r.bind fun z => .ok (.inl z)) := rl_map h fun _ => rfl
theorem W_inrM {α β : Type} {f : α → Ow} {g : β → Ow} {o : Res Ow} {r : Res β} (h : Rl g o r) : Rl (owS f g) o (r.bind fun z => .ok (.inr z)) := rl_map h fun _ => rfl
theorem flat_opt {α : Type} [Emb α] (h : ∀ v : α, flatD (Emb.d v) = true) : ∀ v : Option α, flatD (Emb.d v) = true
  | none => rfl
  | some x => h x
end
/-! a while, by an invariant that counts down -/
theorem gwhl {ρ σ : Type} {test : σ → Res Bool} {body : σ → Fl ρ σ} {S' : σ → Prop} {R : ρ → Prop} (I : Nat → σ → Prop) (h : ∀ k s, I k s → Gv (test s) fun b => (b = true → GvF (body s) (fun s' => ∃ k', k' < k ∧ I k' s') R) ∧ (b = false → S' s)) :
    ∀ (n k : Nat) (s0 : σ), k < n → I k s0 → GvF (whlF test body n s0) S' R
  | 0, _, _, hk, _ => absurd hk (by omega)
  | n + 1, k, s0, hk, h0 => by
    unfold whlF
    refine gfl (h k s0 h0) fun b ⟨h1, h2⟩ => gif (fun hb => ?_) fun hb => gnx (h2 hb)
    exact gfb (h1 hb) fun s ⟨k', q, hs⟩ => gwhl I h n k' s (by omega) hs
end PL

set_option linter.all false
set_option Elab.async false
set_option maxRecDepth 100000
set_option maxHeartbeats 1000000
/-! The typed layer: lists of two kinds. -/
namespace PL
open PySem (Str)
structure HL2 (α β : Type) where
  a : α
  b : β
deriving DecidableEq
section
variable {α β : Type} [Emb α] [Emb β]
instance : Emb (HL2 α β) := ⟨fun p => .lst [Emb.d p.a, Emb.d p.b]⟩
abbrev vH (p : HL2 α β) : Vl := .own [Emb.d p.a, Emb.d p.b]
abbrev sH (p : HL2 α β) : Sl := .own [Emb.d p.a, Emb.d p.b]
instance [EqC α] [EqC β] : EqC (HL2 α β) := ⟨EqC.dep α + EqC.dep β + 1, fun n x h => by
  obtain ⟨m, rfl⟩ : ∃ m, n = m + 1 := ⟨n - 1, by omega⟩
  show eqOk (m + 1) (.lst [Emb.d x.a, Emb.d x.b]) = true
  simp [eqOk, eqOks, EqC.ok m x.a (by omega), EqC.ok m x.b (by omega)], fun x y => by
  show eqD (.lst [Emb.d x.a, Emb.d x.b]) (.lst [Emb.d y.a, Emb.d y.b]) = true ↔ _
  cases x; cases y
  simp [eqD, eqDs, EqC.eq]⟩
theorem y_lstH {x : HL2 α β} {ds : List D} (h : ds.length ≤ SL) (hx : ds = [Emb.d x.a, Emb.d x.b]) : Rl vH (if ds.length ≤ SL then .ok (.own ds) else .bad) (.ok x) := by
  rw [if_pos h, hx]
  rfl
theorem P_h {c : Ctx} {env : Env} {e : E} {r : Res (HL2 α β)} (h : Rl vH (ev c e env) r) : Rl toD (po c (.e e) env) r := by
  rw [po]
  cases r with
  | ok a => have h := h.eq; rw [h]; rfl
  | err k fs => have h : ev c e env = .err k fs := h; rw [h]; rfl
  | bad => trivial
end
/-! where a number stands; the last one taken over -/
@[irreducible] def idxR (xs : List Int) (k : Int) : Res Int := if k ∈ xs then .ok (xs.idxOf k : Nat) else .bad
@[irreducible] def popR {α : Type} (xs : List α) : Res (α × List α) := match xs.getLast? with
  | some d => .ok (d, xs.dropLast)
  | none => .bad
@[irreducible] def lrg2R (i j : Int) : Res (List Int) := if inR i && (inR j && decide (j - i ≤ SL)) then .ok (rng i j) else .bad
section
variable {c : Ctx} {env : Env}
theorem E_lrg2 {a b : E} {rx ry : Res Int} (ha : Rl vV (ev c a env) rx) (hb : Rl vV (ev c b env) ry) : Rl vO (ev c (.lrg2 a b) env) (rx.bind fun i => ry.bind fun j => lrg2R i j) := by
  rw [ev]
  cases rx with
  | ok i =>
    rw [ha.eq]
    show Rl vO ((ev c b env).bind _) (ry.bind fun j => lrg2R i j)
    cases ry with
    | ok j =>
      rw [hb.eq]
      show Rl vO (if inR i && (inR j && decide (j - i ≤ SL)) then Res.ok (Vl.own (rangeD i j)) else .bad) (lrg2R i j)
      unfold lrg2R
      by_cases q : (inR i && (inR j && decide (j - i ≤ SL))) = true
      · rw [if_pos q, if_pos q, rangeD_from]; rfl
      · rw [if_neg q, if_neg q]; trivial
    | err n fs => rw [show ev c b env = .err n fs from hb]; rfl
    | bad => trivial
  | err n fs => rw [show ev c a env = .err n fs from ha]; rfl
  | bad => trivial
theorem E_mthM {α γ : Type} [Emb α] {V : γ → Vl} {rx : Res α} {g : α → Res γ} {k f : Nat} {o : E} {es : List A} (ho : Rl vV (ev c o env) rx) (h : ∀ x, Rl vV (ev c o env) (.ok x) → Rl V (ev c (.mth k f o es) env) (g x)) : Rl V (ev c (.mth k f o es) env) (rx.bind g) := by
  cases rx with
  | ok x => exact h x ho
  | err n fs => rw [ev, show ev c o env = .err n fs from ho]; rfl
  | bad => trivial
end
@[irreducible] def ssetR (xs : List Int) : Res (List Int) := if xs.length ≤ 63 then .ok (ssetI xs) else .bad
section
variable {c : Ctx} {env : Env}
theorem E_ssetM {o : O} {rx : Res (List Int)} (ho : Rl toD (po c o env) rx) : Rl vO (ev c (.sset o) env) (rx.bind ssetR) := by
  rw [ev]
  cases rx with
  | ok xs =>
    rw [ho.eq]
    show Rl vO (ssetD (.lst (xs.map D.int))) (ssetR xs)
    unfold ssetR
    simp only [ssetD, intsOf_map]
    by_cases q : xs.length ≤ 63
    · rw [if_pos q, if_pos q]; rfl
    · rw [if_neg q, if_neg q]; trivial
  | err n fs => rw [show po c o env = .err n fs from ho]; rfl
  | bad => trivial
theorem E_sset {o : O} (xs : List Int) (ho : Rl toD (po c o env) (.ok xs)) : Rl vO (ev c (.sset o) env) (ssetR xs) := E_ssetM (rx := .ok xs) ho
end
section
variable {c : Ctx} {env : Env}
theorem E_lidx {o : O} {a : E} {rx : Res (List Int)} {rk : Res Int} (ho : Rl toD (po c o env) rx) (ha : Rl vV (ev c a env) rk) : Rl vV (ev c (.lidx o a) env) (rx.bind fun xs => rk.bind fun k => idxR xs k) := by
  rw [ev]
  cases rx with
  | ok xs =>
    rw [ho.eq]
    show Rl vV ((ev c a env).bind _) (rk.bind fun k => idxR xs k)
    cases rk with
    | ok k =>
      rw [ha.eq]
      show Rl vV (match intsOf (xs.map D.int) with
        | some ns => if k ∈ ns then .ok (.val (.int (ns.idxOf k))) else .bad
        | none => .bad) (idxR xs k)
      rw [intsOf_map]
      unfold idxR
      show Rl vV (if k ∈ xs then _ else _) _
      by_cases q : k ∈ xs
      · rw [if_pos q, if_pos q]; rfl
      · rw [if_neg q, if_neg q]; trivial
    | err n fs => rw [show ev c a env = .err n fs from ha]; rfl
    | bad => trivial
  | err n fs => rw [show po c o env = .err n fs from ho]; rfl
  | bad => trivial
end
section
variable {α β ρ σ : Type} [Emb α] {V : ρ → Rt} {P : σ → Env → Prop} {Q : Env → Prop} {j : Nat} {c : Ctx} {env env1 : Env} {fr : List Nat} {rest : List S} {a b : Nat}
theorem M_apop {xs ys : List α} {k : α × List α → List α → Fl ρ σ} {env2 : α × List α → List α → Env} (hf : frz fr env = env1) (hx : env1[a]? = some (sO xs)) (hy : env1[b]? = some (sO ys)) (hs : ∀ p zs, (env1.set b (sO p.2)).set a (sO zs) = env2 p zs) (h : ∀ p zs, Sim j V P Q (exss c rest (env2 p zs)) (k p zs)) : Sim j V P Q (exss c (.apop fr a b :: rest) env) ((popR ys).fl fun p => (appR xs p.1).fl (k p)) := by
  unfold popR
  cases hd : ys.getLast? with
  | none => trivial
  | some d =>
    show Sim j V P Q _ ((appR xs d).fl (k (d, ys.dropLast)))
    unfold appR
    by_cases q : xs.length < SL
    · rw [if_pos q]
      have hl : (ys.map Emb.d).getLast? = some (Emb.d d) := by rw [List.getLast?_map, hd]; rfl
      have q' : (xs.map Emb.d).length < SL := by rw [List.length_map]; exact q
      have hs := hs (d, ys.dropLast) (xs ++ [d])
      have e1 : exs c (.apop fr a b) env = .nx (env2 (d, ys.dropLast) (xs ++ [d])) := by
        simp only [exs, hf, hx, hy, hl, q', if_true]
        rw [← hs]
        show Out.nx ((env1.set b (Sl.own (ys.map Emb.d).dropLast)).set a (Sl.own (xs.map Emb.d ++ [Emb.d d]))) = Out.nx ((env1.set b (Sl.own (ys.dropLast.map Emb.d))).set a (Sl.own ((xs ++ [d]).map Emb.d)))
        rw [List.map_append, List.map_dropLast]
        rfl
      rw [exss_nx e1]
      exact h _ _
    · rw [if_neg q]; trivial
end
/-! a thing of no known type that is only looked at -/
def sA (d : D) : Sl := match true, d with
  | true, .lst xs => Sl.pk xs
  | _, _ => Sl.val d
theorem P_sA {c : Ctx} {env : Env} {i : Nat} (d : D) (h : env[i]? = some (sA d)) : Rl toD (po c (.s i) env) (.ok d) := by
  rw [po]
  unfold peek
  rw [h]
  cases d <;> rfl
theorem co_eqV {α β : Type} [Emb α] [Emb β] {m : Res Vl} {x : α} {y : β} (h : Rl vV m (.ok x)) (e : Emb.d y = Emb.d x) : Rl vV m (.ok y) := by
  have h : m = .ok (.val (Emb.d x)) := h
  rw [← e] at h
  exact h
theorem co_eqD {α β : Type} [Emb α] [Emb β] {m : Res D} {x : α} {y : β} (h : Rl toD m (.ok x)) (e : Emb.d y = Emb.d x) : Rl toD m (.ok y) := by
  have h : m = .ok (Emb.d x) := h
  rw [← e] at h
  exact h
/-! a variable that may be unset -/
def sM {α : Type} [Emb α] : Option α → Sl
  | some x => sV x
  | none => .no
theorem P_sM {α : Type} [Emb α] {c : Ctx} {env : Env} {i : Nat} (x : Option α) (h : env[i]? = some (sM x)) : Rl toD (po c (.s i) env) (unO x) := by
  cases x with
  | none => with_unfolding_all trivial
  | some x =>
    have e : unO (some x) = .ok x := by unfold unO; rfl
    rw [e]
    rw [po]
    unfold peek
    rw [h]
    rfl
theorem E_vM {α : Type} [Emb α] {c : Ctx} {env : Env} {i : Nat} (x : Option α) (h : env[i]? = some (sM x)) : Rl vV (ev c (.v i) env) (unO x) := by
  cases x with
  | none => with_unfolding_all trivial
  | some x =>
    have e : unO (some x) = .ok x := by unfold unO; rfl
    rw [e]
    rw [ev]
    unfold getv
    rw [h]
    rfl
theorem F_sDA {c : Ctx} {env : Env} {i : Nat} (x : D) (h : env[i]? = some (sA x)) : Rl mD (itsF c (.sq (.s i)) env) (walkD x) := by
  unfold itsF walkD
  simp only [h]
  have key : ∀ ds : List D, Rl mD (.ok ds) (.ok ds) := fun ds => by show Res.ok ds = Res.ok (ds.map Emb.d); rw [map_id_d]
  cases x with
  | lst xs => exact key xs
  | tup xs => exact key xs
  | str s => exact key _
  | _ => exact True.intro
/-! a list of ints out of a thing of no known type -/
theorem intsOf_eq : ∀ {xs : List D} {ns : List Int}, intsOf xs = some ns → ns.map Emb.d = xs
  | [], ns, h => by cases h; rfl
  | .int i :: r, ns, h => by
    have h : (intsOf r).map (i :: ·) = some ns := h
    cases e : intsOf r with
    | none => rw [e] at h; cases h
    | some ms =>
      rw [e] at h
      cases h
      show D.int i :: ms.map Emb.d = _
      rw [intsOf_eq e]
  | .non :: _, _, h => by cases h
  | .bl _ :: _, _, h => by cases h
  | .str _ :: _, _, h => by cases h
  | .tup _ :: _, _, h => by cases h
  | .lst _ :: _, _, h => by cases h
  | .ins _ _ :: _, _, h => by cases h
def unLI0 (d : D) : Option (List Int) := match d with
  | .lst xs => intsOf xs
  | _ => none
@[irreducible] def unLI (d : D) : Res (List Int) := match unLI0 d with
  | some ns => .ok ns
  | none => .bad
theorem cv_LI : CvOk unLI := ⟨fun x y h => by
  unfold unLI at h
  cases e : unLI0 x with
  | none => rw [e] at h; cases h
  | some ns =>
    rw [e] at h
    cases h
    cases x with
    | lst xs => show D.lst (y.map Emb.d) = _; rw [intsOf_eq e]
    | _ => (cases e), fun x k fs h => by
  unfold unLI at h
  cases e : unLI0 x <;> (rw [e] at h; cases h)⟩
end PL

namespace PL.K38
open PySem (Str)
open PySem.Spec PyProof.Rows L2
def SS (k : Nat) : Ctx := ⟨semx (tblOf T) 1000 k, 1000⟩
theorem SS_call {ρ : Type} {V : ρ → Rt} {n k f : Nat} {ds : List D} {fi : FnI} {r : Res ρ} (hk : n + 1 ≤ k) (hf : T.fns[f]? = some fi) (h : ∀ k, n ≤ k → Rl V (runFnx fi.fn (SS k) ds) r) : Rl V ((SS k).callx f ds) r := call_rl hk hf h
@[irreducible] def s_ceil_div (a : Int) (b : Int) : Res Int := Fl.run (
  if (decide (b < (1 : Int))) = true then Fl.err 1 [toD ("divisor below 1" : Str)]
  else ((((divR (-a) b)).bind fun y_1 => Res.ok (-y_1))).fl Fl.ret : Fl Int Unit)
@[irreducible] def s_check_pattern (pattern : List Int) : Res Unit := Fl.runN () (
  if (!(!pattern.isEmpty)) = true then Fl.err 3 [toD ("no number in the pattern" : Str)]
  else if (decide ((14 : Int) < (pattern.length : Int))) = true then Fl.err 2 [toD (14 : Int)]
  else (forF (fun (number : Int) (s : Unit) =>
  if (!((decide ((0 : Int) ≤ number)) && (decide (number ≤ (1000000 : Int))))) = true then Fl.err 1 [toD ("number of a pattern" : Str)]
  else Fl.nx ()) pattern ()).bind fun (s_1 : Unit) =>
  Fl.nx () : Fl Unit Unit)
@[irreducible] def s_check_fitted (uses : List Int) : Res Unit := Fl.runN () (
  if (!(!uses.isEmpty)) = true then Fl.err 3 [toD ("no use" : Str)]
  else if (decide ((400 : Int) < (uses.length : Int))) = true then Fl.err 2 [toD (400 : Int)]
  else (forF (fun (use : Int) (s : Unit) =>
  if (!((decide ((0 : Int) ≤ use)) && (decide (use ≤ (1000000 : Int))))) = true then Fl.err 1 [toD ("use" : Str)]
  else Fl.nx ()) uses ()).bind fun (s_1 : Unit) =>
  Fl.nx () : Fl Unit Unit)
@[irreducible] def s_pattern_miss (uses : List Int) (pattern : List Int) : Res Int := Fl.run (
  ((s_check_fitted uses)).fl fun (_ : Unit) =>
  ((s_check_pattern pattern)).fl fun (_ : Unit) =>
  ((((((rngR 0 ((uses.length : Int)))).bind fun xs_3 => compM (fun (day_3 : Int) => (((((ixR uses day_3)).bind fun y_14 => ((((modR day_3 ((pattern.length : Int)))).bind fun y_13 => (ixR pattern y_13))).bind fun y_15 => Res.ok (y_14 - y_15))).bind fun y_16 => Res.ok (absI y_16))) xs_3)).bind fun y_17 => (maxR y_17))).fl Fl.ret : Fl Int Unit)
@[irreducible] def s_extreme_days (uses : List Int) (first : Int) (length : Int) : Res (Int × Int) := Fl.run (
  ((rngC first ((uses.length : Int)) length)).fl fun xs => (forF (fun (day : Int) (s : Int × Int) =>
  (((((ixR uses day)).bind fun y => ((ixR uses s.1)).bind fun y_1 => Res.ok (decide (y_1 < y)))).fl fun b_1 => if b_1 = true then Fl.nx day
  else Fl.nx s.1).bind fun (high : Int) =>
  (((((ixR uses day)).bind fun y_2 => ((ixR uses s.2)).bind fun y_3 => Res.ok (decide (y_2 < y_3)))).fl fun b => if b = true then Fl.nx day
  else Fl.nx s.2).bind fun (low : Int) =>
  Fl.nx (high, low)) xs ((first, first))).bind fun (s_1 : Int × Int) =>
  Fl.ret (s_1.1, s_1.2) : Fl (Int × Int) Unit)
@[irreducible] def s_fit_pattern (uses : List Int) (length : Int) : Res (T3 Int (List Int) (Int × Int)) := Fl.run (
  ((s_check_fitted uses)).fl fun (_ : Unit) =>
  if (!((decide ((1 : Int) ≤ length)) && (decide (length ≤ (14 : Int))))) = true then Fl.err 1 [toD ("length of the pattern" : Str)]
  else ((Res.ok (((0 : Int), (0 : Int))))).fl fun (days : Int × Int) =>
  ((rngR 0 length)).fl fun xs => (forF (fun (first : Int) (s : Int × (Int × Int) × (List Int)) =>
  (if (decide (first < (uses.length : Int))) = true then ((s_extreme_days uses first length)).fl fun (p : Int × Int) =>
  ((((((ixR uses p.1)).bind fun y_3 => ((ixR uses p.2)).bind fun y_4 => Res.ok (y_3 + y_4))).bind fun y_5 => Res.ok (y_5 / (2 : Int)))).fl fun y_22 => (appR s.2.2 y_22).fl fun (pattern : List Int) =>
  (((((((((ixR uses p.1)).bind fun y_13 => ((ixR uses p.2)).bind fun y_14 => Res.ok (y_13 - y_14))).bind fun y_15 => (s_ceil_div y_15 ((2 : Int))))).bind fun y_16 => Res.ok (decide (s.1 < y_16)))).fl fun b => if b = true then ((((((ixR uses p.1)).bind fun y_19 => ((ixR uses p.2)).bind fun y_20 => Res.ok (y_19 - y_20))).bind fun y_21 => (s_ceil_div y_21 ((2 : Int))))).fl fun (miss : Int) =>
  ((Res.ok ((p.1, p.2)))).fl fun (days_1 : Int × Int) =>
  Fl.nx (miss, days_1)
  else Fl.nx (s.1, s.2.1)).bind fun (s_1 : Int × (Int × Int)) =>
  Fl.nx (s_1.1, s_1.2, pattern)
  else (appR s.2.2 ((0 : Int))).fl fun (pattern_1 : List Int) =>
  Fl.nx (s.1, s.2.1, pattern_1)).bind fun (s_2 : Int × (Int × Int) × (List Int)) =>
  Fl.nx (s_2.1, s_2.2.1, s_2.2.2)) xs (((0 : Int), days, ([] : List Int)))).bind fun (s_3 : Int × (Int × Int) × (List Int)) =>
  ((Res.ok ((T3.mk s_3.1 s_3.2.2 s_3.2.1)))).fl Fl.ret : Fl (T3 Int (List Int) (Int × Int)) Unit)
@[irreducible] def s_law_cell (script : List Int) (k : Int) : Res Int := Fl.run (
  if (decide (k < (script.length : Int))) = true then ((ixR script k)).fl Fl.ret
  else Fl.ret (0 : Int) : Fl Int Unit)
@[irreducible] def s_law_row (cell : Int) (many : Int) : Res (List Int) := Fl.run (
  if (decide ((1000000000000000000 : Int) ≤ cell)) = true then ((rngR 0 many)).fl fun xs => (forF (fun (k : Int) (s : Int × (List Int)) =>
  (appR s.2 ((s.1 % (1000000000 : Int)))).fl fun (row : List Int) =>
  ((Res.ok ((s.1 / (1000000000 : Int))))).fl fun (cell_1 : Int) =>
  Fl.nx (cell_1, row)) xs ((cell, ([] : List Int)))).bind fun (s_1 : Int × (List Int)) =>
  Fl.ret s_1.2
  else ((rngR 0 many)).fl fun xs_1 => (forF (fun (k_1 : Int) (row_1 : (List Int)) =>
  ((Res.ok (((((cell * (48271 : Int)) + (k_1 * (69621 : Int))) + (4177 : Int)) % (2147483647 : Int))))).fl fun (mixed : Int) =>
  ((((((((((mulR k_1 k_1)).bind fun y_12 => Res.ok (y_12 * (7919 : Int)))).bind fun y_13 => Res.ok ((mixed * (16807 : Int)) + y_13))).bind fun y_14 => Res.ok (y_14 + (271 : Int)))).bind fun y_15 => Res.ok (y_15 % (2147483629 : Int)))).fl fun y_16 => (appR row_1 y_16).fl fun (row_2 : List Int) =>
  Fl.nx row_2) xs_1 (([] : List Int))).bind fun (row_3 : (List Int)) =>
  Fl.ret row_3 : Fl (List Int) Unit)
@[irreducible] def s_law_is_whole (value : Int) : Res Bool := Fl.run (
  Fl.ret (true && (!false)) : Fl Bool Unit)
@[irreducible] def s_law_is_whole_2 (value : D) : Res Bool := Fl.run (
  ((((isTy value .int)).bind fun b_1 => if b_1 = true then (((isTy value .bool)).bind fun y_1 => Res.ok (!y_1)) else Res.ok false)).fl Fl.ret : Fl Bool Unit)
@[irreducible] def s_law_use (cell : Int) (scale : Int) : Res Int := Fl.run (
  if (decide ((cell % (8 : Int)) = (1 : Int))) = true then Fl.ret (0 : Int)
  else if (decide ((cell % (8 : Int)) = (2 : Int))) = true then Fl.ret (1000000 : Int)
  else ((modR ((cell / (8 : Int))) scale)).fl Fl.ret : Fl Int Unit)
@[irreducible] def s_law_uses (row : List Int) (at_ : Int) (many : Int) (length : Int) (scale : Int) : Res (List Int) := Fl.run (
  ((rngR 0 many)).fl fun xs => (forF (fun (d : Int) (uses : (List Int)) =>
  ((((ixR row ((at_ + (d % (24 : Int)))))).bind fun y_4 => ((((((ixR row ((at_ + (24 : Int))))).bind fun y_2 => Res.ok (y_2 + (1 : Int)))).bind fun y_3 => (mulR ((d / (24 : Int))) y_3))).bind fun y_5 => Res.ok (y_4 + y_5))).fl fun (cell : Int) =>
  ((s_law_use cell scale)).fl fun (use : Int) =>
  (if ((decide ((4 : Int) ≤ (cell % (8 : Int)))) && (decide (length ≤ d))) = true then ((((((ixR uses ((d - length)))).bind fun y_6 => Res.ok (y_6 + ((cell / (8 : Int)) % (7 : Int))))).bind fun y_7 => Res.ok (min ((1000000 : Int)) y_7))).fl fun (use_1 : Int) =>
  Fl.nx use_1
  else Fl.nx use).bind fun (use_2 : Int) =>
  (appR uses use_2).fl fun (uses_1 : List Int) =>
  Fl.nx uses_1) xs (([] : List Int))).bind fun (uses_2 : (List Int)) =>
  Fl.ret uses_2 : Fl (List Int) Unit)
@[irreducible] def s_law_uses_wrong (uses : List Int) : Res Int := Fl.run (
  if (!(!uses.isEmpty)) = true then Fl.ret (1 : Int)
  else if (decide ((400 : Int) < (uses.length : Int))) = true then Fl.ret (2 : Int)
  else (forF (fun (use : Int) (s : Unit) =>
  if ((decide (use < (0 : Int))) || (decide ((1000000 : Int) < use))) = true then Fl.ret (3 : Int)
  else Fl.nx ()) uses ()).bind fun (s_1 : Unit) =>
  Fl.ret (0 : Int) : Fl Int Unit)
@[irreducible] def s_law_pattern_wrong (pattern : List Int) : Res Int := Fl.run (
  if (!(!pattern.isEmpty)) = true then Fl.ret (1 : Int)
  else if (decide ((14 : Int) < (pattern.length : Int))) = true then Fl.ret (4 : Int)
  else (forF (fun (number : Int) (s : Unit) =>
  if ((decide (number < (0 : Int))) || (decide ((1000000 : Int) < number))) = true then Fl.ret (3 : Int)
  else Fl.nx ()) pattern ()).bind fun (s_1 : Unit) =>
  Fl.ret (0 : Int) : Fl Int Unit)
@[irreducible] def s_law_limit (limit : D) : Res Int := Fl.run (
  ((eqR limit ((400 : Int)))).fl fun b => if b = true then Fl.ret (2 : Int)
  else ((((((eqR limit ((14 : Int)))).bind fun y_2 => Res.ok (if y_2 = true then 1 else 0 : Int))).bind fun y_3 => (ixR ([(6 : Int), (4 : Int)]) y_3))).fl Fl.ret : Fl Int Unit)
@[irreducible] def s_law_missed (uses : List Int) (pattern : List Int) : Res (Int × Int) := Fl.run (
  (tryF (((((s_pattern_miss uses pattern)).bind fun y_1 => Res.ok ((0 : Int), y_1))).fl Fl.ret) (fun n fs => if exm n 3 = true then Fl.ret ((1 : Int), (0 : Int))
  else if exm n 2 = true then ((((((xfR fs 0)).bind fun y_4 => (s_law_limit y_4))).bind fun y_5 => Res.ok (y_5, (0 : Int)))).fl Fl.ret
  else if exm n 1 = true then Fl.ret ((3 : Int), (0 : Int))
  else if exm n 0 = true then Fl.ret ((5 : Int), (0 : Int))
  else Fl.err n fs)).bind fun (s : Unit) =>
  Fl.bad : Fl (Int × Int) Unit)
@[irreducible] def s_law_fit (uses : List Int) (length : Int) : Res (Int × (Sum Int (T3 Int (List Int) (Int × Int)))) := Fl.run (
  (tryF (((((((s_fit_pattern uses length)).bind fun z => Res.ok (Sum.inr z : Sum Int (T3 Int (List Int) (Int × Int))))).bind fun y_1 => Res.ok ((0 : Int), y_1))).fl Fl.ret) (fun n fs => if exm n 3 = true then ((Res.ok (((1 : Int), (Sum.inl ((0 : Int)) : Sum Int (T3 Int (List Int) (Int × Int))))))).fl Fl.ret
  else if exm n 2 = true then ((((((xfR fs 0)).bind fun y_4 => (s_law_limit y_4))).bind fun y_5 => Res.ok (y_5, (Sum.inl ((0 : Int)) : Sum Int (T3 Int (List Int) (Int × Int)))))).fl Fl.ret
  else if exm n 1 = true then ((Res.ok (((3 : Int), (Sum.inl ((0 : Int)) : Sum Int (T3 Int (List Int) (Int × Int))))))).fl Fl.ret
  else if exm n 0 = true then ((Res.ok (((5 : Int), (Sum.inl ((0 : Int)) : Sum Int (T3 Int (List Int) (Int × Int))))))).fl Fl.ret
  else Fl.err n fs)).bind fun (s : Unit) =>
  Fl.bad : Fl (Int × (Sum Int (T3 Int (List Int) (Int × Int)))) Unit)
@[irreducible] def s_law_miss (uses : List Int) (pattern : List Int) : Res Int := Fl.run (
  ((((((rngR 0 ((uses.length : Int)))).bind fun xs_3 => compM (fun (d_3 : Int) => (((((ixR uses d_3)).bind fun y_14 => ((((modR d_3 ((pattern.length : Int)))).bind fun y_13 => (ixR pattern y_13))).bind fun y_15 => Res.ok (y_14 - y_15))).bind fun y_16 => Res.ok (absI y_16))) xs_3)).bind fun y_17 => (maxR y_17))).fl Fl.ret : Fl Int Unit)
@[irreducible] def s_law_miss_2 (uses : List Int) (pattern : D) : Res Int := Fl.run (
  ((((((rngR 0 ((uses.length : Int)))).bind fun xs_3 => compM (fun (d_3 : Int) => (((((ixR uses d_3)).bind fun y_18 => ((((((((lenD pattern)).bind fun y_16 => (modR d_3 y_16))).bind fun y_17 => (ixD pattern y_17))).bind unI)).bind fun y_19 => Res.ok (y_18 - y_19))).bind fun y_20 => Res.ok (absI y_20))) xs_3)).bind fun y_21 => (maxR y_21))).fl Fl.ret : Fl Int Unit)
@[irreducible] def s_law_fits (told : D) (uses : List Int) (length : Int) : Res Bool := Fl.run (
  ((((((isTy told .tup)).bind fun z => Res.ok (!z))).bind fun b_1 => if b_1 = true then Res.ok true else (((((lenD told)).bind fun y => Res.ok (decide (y ≠ (3 : Int))))).bind fun b => if b = true then Res.ok true else (((((ixD told ((0 : Int)))).bind fun y_1 => (s_law_is_whole_2 y_1))).bind fun z => Res.ok (!z))))).fl fun b_15 => if b_15 = true then Fl.ret false
  else ((ixD told ((1 : Int)))).fl fun (pattern : D) =>
  ((((((isTy pattern .lst)).bind fun z => Res.ok (!z))).bind fun b_2 => if b_2 = true then Res.ok true else (((lenD pattern)).bind fun y_2 => Res.ok (decide (y_2 ≠ length))))).fl fun b_14 => if b_14 = true then Fl.ret false
  else ((walkD pattern)).fl fun xs => (forF (fun (number : D) (s : Unit) =>
  ((((((s_law_is_whole_2 number)).bind fun z => Res.ok (!z))).bind fun b_3 => if b_3 = true then Res.ok true else (((((unI number)).bind fun y_3 => Res.ok ((decide ((0 : Int) ≤ y_3)) && (decide (y_3 ≤ (1000000 : Int)))))).bind fun z => Res.ok (!z)))).fl fun b_4 => if b_4 = true then Fl.ret false
  else Fl.nx ()) xs ()).bind fun (s_1 : Unit) =>
  ((ixD told ((2 : Int)))).fl fun (days : D) =>
  ((((((isTy days .tup)).bind fun z => Res.ok (!z))).bind fun b_7 => if b_7 = true then Res.ok true else (((((lenD days)).bind fun y_4 => Res.ok (decide (y_4 ≠ (2 : Int))))).bind fun b_6 => if b_6 = true then Res.ok true else (((((((ixD days ((0 : Int)))).bind fun y_5 => (s_law_is_whole_2 y_5))).bind fun z => Res.ok (!z))).bind fun b_5 => if b_5 = true then Res.ok true else (((((ixD days ((1 : Int)))).bind fun y_6 => (s_law_is_whole_2 y_6))).bind fun z => Res.ok (!z)))))).fl fun b_13 => if b_13 = true then Fl.ret false
  else ((ixD days ((0 : Int)))).fl fun (x : D) =>
  ((ixD days ((1 : Int)))).fl fun (y_7 : D) =>
  ((((((((unI x)).bind fun y_8 => Res.ok ((decide ((0 : Int) ≤ y_8)) && (decide (y_8 < (uses.length : Int)))))).bind fun z => Res.ok (!z))).bind fun b_9 => if b_9 = true then Res.ok true else (((((((unI y_7)).bind fun y_9 => Res.ok ((decide ((0 : Int) ≤ y_9)) && (decide (y_9 < (uses.length : Int)))))).bind fun z => Res.ok (!z))).bind fun b_8 => if b_8 = true then Res.ok true else (((((((unI x)).bind fun y_10 => ((unI y_7)).bind fun y_11 => Res.ok (y_10 - y_11))).bind fun y_12 => (modR y_12 length))).bind fun y_13 => Res.ok (decide (y_13 ≠ (0 : Int))))))).fl fun b_12 => if b_12 = true then Fl.ret false
  else ((((((s_law_miss_2 uses pattern)).bind fun y_30 => ((ixD told ((0 : Int)))).bind fun y_31 => (eqR y_30 y_31))).bind fun b_11 => if b_11 = true then (((((((((((((unI x)).bind fun y_37 => (ixR uses y_37))).bind fun y_39 => ((((unI y_7)).bind fun y_38 => (ixR uses y_38))).bind fun y_40 => Res.ok (y_39 - y_40))).bind fun y_41 => Res.ok (absI y_41))).bind fun y_42 => Res.ok (y_42 + (1 : Int)))).bind fun y_43 => Res.ok (y_43 / (2 : Int)))).bind fun y_44 => ((ixD told ((0 : Int)))).bind fun y_45 => (eqR y_44 y_45)) else Res.ok false)).fl Fl.ret : Fl Bool Unit)
@[irreducible] def s_law_changed (row : List Int) (at_ : Int) (numbers : List Int) (many : Int) : Res (List Int) := Fl.run (
  ((((ixR row at_)).bind fun y => (modR y ((numbers.length : Int))))).fl fun (place : Int) =>
  ((((((((ixR row ((at_ + (1 : Int))))).bind fun y_3 => Res.ok ((-(1 : Int)) - y_3))).bind fun y_5 => ((((ixR row ((at_ + (1 : Int))))).bind fun y_4 => Res.ok ((1000001 : Int) + y_4))).bind fun y_6 => Res.ok [(-(1 : Int)), (1000001 : Int), y_5, y_6])).bind fun y_8 => ((((ixR row ((at_ + (2 : Int))))).bind fun y_7 => Res.ok (y_7 % (4 : Int)))).bind fun y_9 => (ixR y_8 y_9))).fl fun (bad : Int) =>
  ((((appL ((cutL numbers none (some place))) [bad])).bind fun y_10 => (appL y_10 ((cutL numbers (some ((place + (1 : Int)))) none))))).fl fun (spoilt : List Int) =>
  ((((ixR row ((at_ + (3 : Int))))).bind fun y_11 => Res.ok (y_11 % (6 : Int)))).fl fun (pick : Int) =>
  if (decide (pick = (0 : Int))) = true then Fl.ret ([] : List Int)
  else if (decide (pick = (1 : Int))) = true then ((((((((divR many ((numbers.length : Int)))).bind fun y_15 => Res.ok (y_15 + (1 : Int)))).bind fun y_16 => (repL numbers y_16))).bind fun y_17 => Res.ok (cutL y_17 none (some many)))).fl Fl.ret
  else if (decide (pick = (2 : Int))) = true then ((((((((divR many ((numbers.length : Int)))).bind fun y_21 => Res.ok (y_21 + (1 : Int)))).bind fun y_22 => (repL spoilt y_22))).bind fun y_23 => Res.ok (cutL y_23 none (some many)))).fl Fl.ret
  else if (decide (pick = (3 : Int))) = true then Fl.ret spoilt
  else Fl.ret numbers : Fl (List Int) Unit)
@[irreducible] def s_law_refusals (row : List Int) (at_ : Int) (uses : List Int) (pattern : List Int) (length : Int) : Res Bool := Fl.run (
  ((s_law_changed row at_ uses ((401 : Int)))).fl fun (others : List Int) =>
  ((s_law_changed row ((at_ + (4 : Int))) pattern ((15 : Int)))).fl fun (another : List Int) =>
  (((((((ixR row ((at_ + (8 : Int))))).bind fun y => Res.ok (y % (4 : Int)))).bind fun y_1 => Res.ok (decide (y_1 = (1 : Int))))).fl fun b_6 => if b_6 = true then ((((((((ixR row ((at_ + (9 : Int))))).bind fun y_4 => Res.ok (-y_4))).bind fun y_6 => ((((ixR row ((at_ + (9 : Int))))).bind fun y_5 => Res.ok ((15 : Int) + y_5))).bind fun y_7 => Res.ok [(0 : Int), (15 : Int), y_6, y_7])).bind fun y_10 => ((((((ixR row ((at_ + (8 : Int))))).bind fun y_8 => Res.ok (y_8 / (4 : Int)))).bind fun y_9 => Res.ok (y_9 % (4 : Int)))).bind fun y_11 => (ixR y_10 y_11))).fl fun (length_1 : Int) =>
  Fl.nx length_1
  else Fl.nx length).bind fun (length_2 : Int) =>
  ((Res.ok ([others, another]))).fl fun (kept : List (List Int)) =>
  ((s_law_uses_wrong others)).fl fun (due : Int) =>
  ((s_law_missed others another)).fl fun (missed : Int × Int) =>
  ((s_law_fit others length_2)).fl fun (fit : Int × (Sum Int (T3 Int (List Int) (Int × Int)))) =>
  if (decide (kept ≠ [others, another])) = true then Fl.ret false
  else if ((decide (due = (0 : Int))) && (!((decide ((1 : Int) ≤ length_2)) && (decide (length_2 ≤ (14 : Int)))))) = true then ((((eqR fit (((3 : Int), (0 : Int))))).bind fun b_1 => if b_1 = true then (((s_law_pattern_wrong another)).bind fun y_13 => Res.ok (decide (missed.1 = y_13))) else Res.ok false)).fl Fl.ret
  else if (decide (due = (0 : Int))) = true then ((if (decide (fit.1 = (0 : Int))) = true then (((s_law_fits ((toD fit.2)) others length_2)).bind fun b_3 => if b_3 = true then (((s_law_pattern_wrong another)).bind fun y_15 => Res.ok (decide (missed.1 = y_15))) else Res.ok false) else Res.ok false)).fl Fl.ret
  else ((((eqR fit ((due, (0 : Int))))).bind fun b_5 => if b_5 = true then Res.ok (decide (missed = (due, (0 : Int)))) else Res.ok false)).fl Fl.ret : Fl Bool Unit)
@[irreducible] def s_law (script : List Int) : Res Bool := Fl.run (
  ((((s_law_cell script ((0 : Int)))).bind fun y => (s_law_row y ((50 : Int))))).fl fun (row : List Int) =>
  ((((s_law_cell script ((1 : Int)))).bind fun y_1 => (s_law_row y_1 ((12 : Int))))).fl fun (more : List Int) =>
  ((((((ixR row ((0 : Int)))).bind fun y_3 => Res.ok (y_3 % (14 : Int)))).bind fun y_4 => Res.ok (y_4 + (1 : Int)))).fl fun (length : Int) =>
  ((((((ixR row ((1 : Int)))).bind fun y_5 => Res.ok (y_5 % (3 : Int)))).bind fun y_6 => (ixR ([(12 : Int), (1003 : Int), (1000001 : Int)]) y_6))).fl fun (scale : Int) =>
  ((((((ixR row ((2 : Int)))).bind fun y_8 => Res.ok (y_8 % (24 : Int)))).bind fun y_9 => Res.ok (y_9 + (1 : Int)))).fl fun (many : Int) =>
  (((((((((ixR row ((2 : Int)))).bind fun y_10 => Res.ok (y_10 / (24 : Int)))).bind fun y_11 => Res.ok (y_11 % (8 : Int)))).bind fun y_12 => Res.ok (decide (y_12 = (3 : Int))))).fl fun b_7 => if b_7 = true then Fl.nx (400 : Int)
  else Fl.nx many).bind fun (many_1 : Int) =>
  ((s_law_uses row ((3 : Int)) many_1 length scale)).fl fun (uses : List Int) =>
  ((((((((((ixR row ((42 : Int)))).bind fun y_14 => Res.ok (y_14 % (14 : Int)))).bind fun y_15 => Res.ok (y_15 + (1 : Int)))).bind fun y_16 => rngR 0 y_16)).bind fun xs => compM (fun (k : Int) => (((ixR row (((28 : Int) + k)))).bind fun y_17 => (s_law_use y_17 scale))) xs)).fl fun (pattern : List Int) =>
  ((((rngR 0 length)).bind fun xs_1 => compM (fun (k_1 : Int) => (((ixR row (((28 : Int) + k_1)))).bind fun y_18 => (s_law_use y_18 scale))) xs_1)).fl fun (other : List Int) =>
  ((s_law_fit uses length)).fl fun (told : Int × (Sum Int (T3 Int (List Int) (Int × Int)))) =>
  ((if (decide (told.1 ≠ (0 : Int))) = true then Res.ok true else (if (decide (uses ≠ uses)) = true then Res.ok true else (((s_law_fits ((toD told.2)) uses length)).bind fun z => Res.ok (!z))))).okl fun b_6 => if b_6 = true then Fl.ret false
  else ((((ixD ((toD told.2)) ((0 : Int)))).bind unI)).okl fun (least : Int) =>
  (unR told.2).fl fun y_19 =>
  ((Res.ok ((0 : Int)))).okl fun z => (appR y_19.b z).fl fun (ys : List Int) =>
  ((s_law_missed uses pattern)).fl fun (missed : Int × Int) =>
  ((((((((s_law_miss uses pattern)).bind fun y_20 => Res.ok ((0 : Int), y_20))).bind fun y_21 => Res.ok (decide (missed ≠ y_21)))).bind fun b => if b = true then Res.ok true else (((s_law_is_whole missed.2)).bind fun z => Res.ok (!z)))).fl fun b_5 => if b_5 = true then Fl.ret false
  else (appR uses ((1000001 : Int))).fl fun (given : List Int) =>
  ((s_law_missed uses other)).fl fun (missed_1 : Int × Int) =>
  ((((((((s_law_miss uses other)).bind fun y_22 => Res.ok ((0 : Int), y_22))).bind fun y_23 => Res.ok (decide (missed_1 ≠ y_23)))).bind fun b_1 => if b_1 = true then Res.ok true else Res.ok (decide (missed_1.2 < least)))).fl fun b_4 => if b_4 = true then Fl.ret false
  else ((((s_law_refusals more ((0 : Int)) uses pattern length)).bind fun b_3 => if b_3 = true then ((((s_fit_pattern uses length).bind fun z => Res.ok (toD z))).bind fun y_25 => (s_law_fits y_25 uses length)) else Res.ok false)).fl Fl.ret : Fl Bool Unit)
theorem c_ceil_div (K0 : Nat) (hK : 1 ≤ K0) (a : Int) (b : Int) : Rl rV ((SS K0).callx 0 [toD a, toD b]) (s_ceil_div a b) := by
  refine SS_call (n := 0) hK rfl ?_
  intro K0 hK
  unfold s_ceil_div
  refine run_sim (env := [sV a, sV b]) rfl rfl rfl ?_
  show Sim 0 _ _ _ (exss (SS K0) f_ceil_div.body [sV a, sV b]) _
  refine M_ifJ ((decide (b < (1 : Int)))) rfl (T_cmp (bP (V := toD) (b : Int) (P_s rfl) (bP (V := toD) ((1 : Int) : Int) (P_v (E_int 1)) (rl_ok rfl)))) ?_ ?_
  · exact M_raisP trivial (N_cons (x := (("divisor below 1" : Str) : Str)) (E_str "divisor below 1") rfl N_nil)
  exact M_ret (W := vV) (fun _ => rfl) rfl trivial (E_neg (bM (V := vV) (E_bin (bP (V := toD) ((-a) : Int) (Q_v (E_neg (bP (V := vV) (a : Int) (E_v rfl) (rl_ok rfl)))) (bP (V := toD) (b : Int) (Q_s rfl) (y_div (-a) b)))) fun y_1 => (rl_ok rfl)))
theorem c_check_pattern (K0 : Nat) (hK : 1 ≤ K0) (pattern : List Int) : Rl rV ((SS K0).callx 1 [toD pattern]) (s_check_pattern pattern) := by
  refine SS_call (n := 0) hK rfl ?_
  intro K0 hK
  unfold s_check_pattern
  refine run_simN () (env := [sP pattern, .no]) rfl rfl rfl rfl ?_
  show Sim 0 _ _ _ (exss (SS K0) f_check_pattern.body [sP pattern, .no]) _
  refine M_ifJ (!(!pattern.isEmpty)) rfl (T_not (T_v (bP (V := toD) (pattern : List Int) (P_s rfl) (y_trL pattern)))) ?_ ?_
  · exact M_raisP trivial (N_cons (x := (("no number in the pattern" : Str) : Str)) (E_str "no number in the pattern") rfl N_nil)
  refine M_ifJ ((decide ((14 : Int) < (pattern.length : Int)))) rfl (T_cmp (bP (V := toD) ((pattern.length : Int) : Int) (P_v (E_b1 (bP (V := toD) (pattern : List Int) (P_s rfl) (y_len pattern)))) (bP (V := toD) ((14 : Int) : Int) (P_v (E_g (14))) (rl_ok rfl)))) ?_ ?_
  · exact M_raisP trivial (N_cons (x := ((14 : Int) : Int)) (E_g (14)) rfl N_nil)
  refine M_forP (σ' := Unit) (fun (s : Unit) e => ∃ w1_, e = [sP pattern, w1_]) (xs := pattern) () rfl  (F_sP pattern rfl) ⟨_, rfl⟩ ?_ ?_
  · intro number s e h
    obtain ⟨w1_, rfl⟩ := h
    refine ⟨[sP pattern, sV number], rfl, ?_⟩
    refine M_ifJ ((!((decide ((0 : Int) ≤ number)) && (decide (number ≤ (1000000 : Int)))))) rfl (T_not (T_ch2 (bP (V := toD) ((0 : Int) : Int) (P_v (E_int 0)) (bP (V := toD) (number : Int) (P_s rfl) (y_chT (rl_ok rfl) (bP (V := toD) ((1000000 : Int) : Int) (P_v (E_g (1000000))) (rl_ok rfl))))))) ?_ ?_
    · exact M_raisP trivial (N_cons (x := (("number of a pattern" : Str) : Str)) (E_str "number of a pattern") rfl N_nil)
    exact M_nil2 ⟨_, rfl⟩
  intro s_1 e h
  obtain ⟨w2_, rfl⟩ := h
  exact M_nil0 trivial
theorem c_check_fitted (K0 : Nat) (hK : 1 ≤ K0) (uses : List Int) : Rl rV ((SS K0).callx 2 [toD uses]) (s_check_fitted uses) := by
  refine SS_call (n := 0) hK rfl ?_
  intro K0 hK
  unfold s_check_fitted
  refine run_simN () (env := [sP uses, .no]) rfl rfl rfl rfl ?_
  show Sim 0 _ _ _ (exss (SS K0) f_check_fitted.body [sP uses, .no]) _
  refine M_ifJ (!(!uses.isEmpty)) rfl (T_not (T_v (bP (V := toD) (uses : List Int) (P_s rfl) (y_trL uses)))) ?_ ?_
  · exact M_raisP trivial (N_cons (x := (("no use" : Str) : Str)) (E_str "no use") rfl N_nil)
  refine M_ifJ ((decide ((400 : Int) < (uses.length : Int)))) rfl (T_cmp (bP (V := toD) ((uses.length : Int) : Int) (P_v (E_b1 (bP (V := toD) (uses : List Int) (P_s rfl) (y_len uses)))) (bP (V := toD) ((400 : Int) : Int) (P_v (E_g (400))) (rl_ok rfl)))) ?_ ?_
  · exact M_raisP trivial (N_cons (x := ((400 : Int) : Int)) (E_g (400)) rfl N_nil)
  refine M_forP (σ' := Unit) (fun (s : Unit) e => ∃ w1_, e = [sP uses, w1_]) (xs := uses) () rfl  (F_sP uses rfl) ⟨_, rfl⟩ ?_ ?_
  · intro use s e h
    obtain ⟨w1_, rfl⟩ := h
    refine ⟨[sP uses, sV use], rfl, ?_⟩
    refine M_ifJ ((!((decide ((0 : Int) ≤ use)) && (decide (use ≤ (1000000 : Int)))))) rfl (T_not (T_ch2 (bP (V := toD) ((0 : Int) : Int) (P_v (E_int 0)) (bP (V := toD) (use : Int) (P_s rfl) (y_chT (rl_ok rfl) (bP (V := toD) ((1000000 : Int) : Int) (P_v (E_g (1000000))) (rl_ok rfl))))))) ?_ ?_
    · exact M_raisP trivial (N_cons (x := (("use" : Str) : Str)) (E_str "use") rfl N_nil)
    exact M_nil2 ⟨_, rfl⟩
  intro s_1 e h
  obtain ⟨w2_, rfl⟩ := h
  exact M_nil0 trivial
theorem c_pattern_miss (K0 : Nat) (hK : 2 ≤ K0) (uses : List Int) (pattern : List Int) : Rl rV ((SS K0).callx 3 [toD uses, toD pattern]) (s_pattern_miss uses pattern) := by
  refine SS_call (n := 1) hK rfl ?_
  intro K0 hK
  unfold s_pattern_miss
  refine run_sim (env := [sP uses, sP pattern, .no]) rfl rfl rfl ?_
  show Sim 0 _ _ _ (exss (SS K0) f_pattern_miss.body [sP uses, sP pattern, .no]) _
  refine M_ex (W := vV) (r := (s_check_fitted uses)) rfl trivial (E_call (G_cons (bP (V := toD) (uses : List Int) (A_p (P_s rfl)) (G_nil (c_v (c_check_fitted _ (Nat.le_trans (Nat.le_of_ble_eq_true rfl) hK) uses)))))) (fun _ => ?_)
  refine M_ex (W := vV) (r := (s_check_pattern pattern)) rfl trivial (E_call (G_cons (bP (V := toD) (pattern : List Int) (A_p (P_s rfl)) (G_nil (c_v (c_check_pattern _ (Nat.le_trans (Nat.le_of_ble_eq_true rfl) hK) pattern)))))) (fun _ => ?_)
  exact M_ret (W := vV) (fun _ => rfl) rfl trivial (E_b1 (bM (V := toD) (P_o (E_compM (V := vV) (fun _ => rfl) (I_r1 ((uses.length : Int)) (E_b1 (bP (V := toD) (uses : List Int) (P_s rfl) (y_len uses)))) (fun day_3 => [sP uses, sP pattern, sV day_3]) (fun _ => rfl) (fun day_3 => (E_b1 (bM (V := toD) (P_v (E_bin (bM (V := toD) (Q_v (E_ix (bP (V := toD) (uses : List Int) (P_s rfl) (bP (V := toD) (day_3 : Int) (P_s rfl) (y_ix uses day_3))))) fun y_14 => (bM (V := toD) (Q_v (E_ix (bP (V := toD) (pattern : List Int) (P_s rfl) (bM (V := toD) (P_v (E_bin (bP (V := toD) (day_3 : Int) (Q_s rfl) (bP (V := toD) ((pattern.length : Int) : Int) (Q_v (E_b1 (bP (V := toD) (pattern : List Int) (P_s rfl) (y_len pattern)))) (y_mod day_3 ((pattern.length : Int))))))) fun y_13 => (y_ix pattern y_13))))) fun y_15 => (rl_ok rfl))))) fun y_16 => (y_abs y_16)))))) fun y_17 => (y_maxL y_17)))
theorem c_extreme_days (K0 : Nat) (hK : 1 ≤ K0) (uses : List Int) (first : Int) (length : Int) : Rl rV ((SS K0).callx 4 [toD uses, toD first, toD length]) (s_extreme_days uses first length) := by
  refine SS_call (n := 0) hK rfl ?_
  intro K0 hK
  unfold s_extreme_days
  refine run_sim (env := [sP uses, sV first, sV length, .no, .no, .no]) rfl rfl rfl ?_
  show Sim 0 _ _ _ (exss (SS K0) f_extreme_days.body [sP uses, sV first, sV length, .no, .no, .no]) _
  refine M_asgP (W := vV) (first : Int) (env2 := [sP uses, sV first, sV length, sV first, .no, .no]) rfl (E_v rfl) rfl ?_
  refine M_asgP (W := vV) (first : Int) (env2 := [sP uses, sV first, sV length, sV first, sV first, .no]) rfl (E_v rfl) rfl ?_
  refine M_for (σ' := Int × Int) (fun (s : Int × Int) e => ∃ w1_, e = [sP uses, sV first, sV length, sV s.1, sV s.2, w1_]) ((first, first)) rfl trivial (F_r3 first ((uses.length : Int)) length (E_v rfl) (E_b1 (bP (V := toD) (uses : List Int) (P_s rfl) (y_len uses))) (E_v rfl)) ⟨_, rfl⟩ ?_ ?_
  · intro day s e_2 h_2
    obtain ⟨w1_, rfl⟩ := h_2
    refine ⟨[sP uses, sV first, sV length, sV s.1, sV s.2, sV day], rfl, ?_⟩
    refine M_ifNM (σ' := Int) (fun (high : Int) e => e = [sP uses, sV first, sV length, sV high, sV s.2, sV day]) (r := (((ixR uses day)).bind fun y => ((ixR uses s.1)).bind fun y_1 => Res.ok (decide (y_1 < y)))) rfl trivial (T_cmp (bM (V := toD) (P_v (E_ix (bP (V := toD) (uses : List Int) (P_s rfl) (bP (V := toD) (day : Int) (P_s rfl) (y_ix uses day))))) fun y => (bM (V := toD) (P_v (E_ix (bP (V := toD) (uses : List Int) (P_s rfl) (bP (V := toD) (s.1 : Int) (P_s rfl) (y_ix uses s.1))))) fun y_1 => (rl_ok rfl)))) ?_ ?_ ?_
    · refine M_asgP (W := vV) (day : Int) (env2 := [sP uses, sV first, sV length, sV day, sV s.2, sV day]) rfl (E_v rfl) rfl ?_
      exact M_nil0 rfl
    · exact M_nil0 rfl
    intro high e h
    obtain rfl := h
    refine M_ifNM (σ' := Int) (fun (low : Int) e => e = [sP uses, sV first, sV length, sV high, sV low, sV day]) (r := (((ixR uses day)).bind fun y_2 => ((ixR uses s.2)).bind fun y_3 => Res.ok (decide (y_2 < y_3)))) rfl trivial (T_cmp (bM (V := toD) (P_v (E_ix (bP (V := toD) (uses : List Int) (P_s rfl) (bP (V := toD) (day : Int) (P_s rfl) (y_ix uses day))))) fun y_2 => (bM (V := toD) (P_v (E_ix (bP (V := toD) (uses : List Int) (P_s rfl) (bP (V := toD) (s.2 : Int) (P_s rfl) (y_ix uses s.2))))) fun y_3 => (rl_ok rfl)))) ?_ ?_ ?_
    · refine M_asgP (W := vV) (day : Int) (env2 := [sP uses, sV first, sV length, sV high, sV day, sV day]) rfl (E_v rfl) rfl ?_
      exact M_nil0 rfl
    · exact M_nil0 rfl
    intro low e_1 h_1
    obtain rfl := h_1
    exact M_nil2 ⟨_, rfl⟩
  intro s_1 e_2 h_2
  obtain ⟨w2_, rfl⟩ := h_2
  exact M_retP (W := vV) (fun _ => rfl) ((s_1.1, s_1.2) : Int × Int) rfl (E_tup (K_cons (bP (V := vV) (s_1.1 : Int) (E_v rfl) (K_cons (bP (V := vV) (s_1.2 : Int) (E_v rfl) (K_nil (y_tup (x := ((s_1.1, s_1.2) : Int × Int)) (Nat.le_of_ble_eq_true rfl) rfl)))))))
theorem c_fit_pattern (K0 : Nat) (hK : 2 ≤ K0) (uses : List Int) (length : Int) : Rl (rD (owT3 owD owL owD)) ((SS K0).callx 5 [toD uses, toD length]) (s_fit_pattern uses length) := by
  refine SS_call (n := 1) hK rfl ?_
  intro K0 hK
  unfold s_fit_pattern
  refine run_sim (env := [sP uses, sV length, .no, .no, .no, .no, .no, .no]) rfl rfl rfl ?_
  show Sim 0 _ _ _ (exss (SS K0) f_fit_pattern.body [sP uses, sV length, .no, .no, .no, .no, .no, .no]) _
  refine M_ex (W := vV) (r := (s_check_fitted uses)) rfl trivial (E_call (G_cons (bP (V := toD) (uses : List Int) (A_p (P_s rfl)) (G_nil (c_v (c_check_fitted _ (Nat.le_trans (Nat.le_of_ble_eq_true rfl) hK) uses)))))) (fun _ => ?_)
  refine M_ifJ ((!((decide ((1 : Int) ≤ length)) && (decide (length ≤ (14 : Int)))))) rfl (T_not (T_ch2 (bP (V := toD) ((1 : Int) : Int) (P_v (E_int 1)) (bP (V := toD) (length : Int) (P_s rfl) (y_chT (rl_ok rfl) (bP (V := toD) ((14 : Int) : Int) (P_v (E_g (14))) (rl_ok rfl))))))) ?_ ?_
  · exact M_raisP trivial (N_cons (x := (("length of the pattern" : Str) : Str)) (E_str "length of the pattern") rfl N_nil)
  refine M_asgP (W := vV) ((0 : Int) : Int) (env2 := [sP uses, sV length, sV ((0 : Int) : Int), .no, .no, .no, .no, .no]) rfl (E_int 0) rfl ?_
  refine M_asg (W := vV) (r := (Res.ok (((0 : Int), (0 : Int))))) (env2 := fun days => [sP uses, sV length, sV ((0 : Int) : Int), sV days, .no, .no, .no, .no]) rfl trivial (E_tup (K_cons (bP (V := vV) ((0 : Int) : Int) (E_int 0) (K_cons (bP (V := vV) ((0 : Int) : Int) (E_int 0) (K_nil (y_tup (x := (((0 : Int), (0 : Int)) : Int × Int)) (Nat.le_of_ble_eq_true rfl) rfl))))))) (fun _ => rfl) (fun days => ?_)
  refine M_asgP (W := vO) (([] : List Int) : List Int) (env2 := [sP uses, sV length, sV ((0 : Int) : Int), sV days, sO (([] : List Int) : List Int), .no, .no, .no]) rfl (E_lst (K_nil (y_lst (xs := (([] : List Int) : List Int)) (Nat.le_of_ble_eq_true rfl) rfl))) rfl ?_
  refine M_for (σ' := Int × (Int × Int) × (List Int)) (fun (s : Int × (Int × Int) × (List Int)) e => ∃ w1_ w2_ w3_, e = [sP uses, sV length, sV s.1, sV s.2.1, sO s.2.2, w1_, w2_, w3_]) (((0 : Int), days, ([] : List Int))) rfl trivial (F_r1 length (E_v rfl)) ⟨_, _, _, rfl⟩ ?_ ?_
  · intro first s e_2 h_2
    obtain ⟨w1_, w2_, w3_, rfl⟩ := h_2
    refine ⟨[sP uses, sV length, sV s.1, sV s.2.1, sO s.2.2, sV first, w2_, w3_], rfl, ?_⟩
    refine M_ifN (σ' := Int × (Int × Int) × (List Int)) (fun (s_2 : Int × (Int × Int) × (List Int)) e => ∃ w4_ w5_, e = [sP uses, sV length, sV s_2.1, sV s_2.2.1, sO s_2.2.2, sV first, w4_, w5_]) ((decide (first < (uses.length : Int)))) rfl (T_cmp (bP (V := toD) (first : Int) (P_s rfl) (bP (V := toD) ((uses.length : Int) : Int) (P_v (E_b1 (bP (V := toD) (uses : List Int) (P_s rfl) (y_len uses)))) (rl_ok rfl)))) ?_ ?_ ?_
    · refine M_asgt (W := vV) (r := (s_extreme_days uses first length)) (env2 := fun p => [sP uses, sV length, sV s.1, sV s.2.1, sO s.2.2, sV first, sV p.1, sV p.2]) rfl trivial (E_call (G_cons (bP (V := toD) (uses : List Int) (A_p (P_s rfl)) (G_cons (bP (V := toD) (first : Int) (A_v (E_v rfl)) (G_cons (bP (V := toD) (length : Int) (A_v (E_v rfl)) (G_nil (c_v (c_extreme_days _ (Nat.le_trans (Nat.le_of_ble_eq_true rfl) hK) uses first length)))))))))) (fun _ => rfl) (fun p => ?_)
      refine M_app (W := vV) (fun _ => rfl) (xs := (s.2.2 : List Int)) (r := (((((ixR uses p.1)).bind fun y_3 => ((ixR uses p.2)).bind fun y_4 => Res.ok (y_3 + y_4))).bind fun y_5 => Res.ok (y_5 / (2 : Int)))) (env2 := fun pattern => [sP uses, sV length, sV s.1, sV s.2.1, sO pattern, sV first, sV p.1, sV p.2]) rfl rfl trivial (E_bin (bM (V := toD) (Q_v (E_bin (bM (V := toD) (Q_v (E_ix (bP (V := toD) (uses : List Int) (P_s rfl) (bP (V := toD) (p.1 : Int) (P_s rfl) (y_ix uses p.1))))) fun y_3 => (bM (V := toD) (Q_v (E_ix (bP (V := toD) (uses : List Int) (P_s rfl) (bP (V := toD) (p.2 : Int) (P_s rfl) (y_ix uses p.2))))) fun y_4 => (rl_ok rfl))))) fun y_5 => (bP (V := toD) ((2 : Int) : Int) (Q_v (E_int 2)) (y_divp (by decide))))) (fun _ => rfl) (fun pattern => ?_)
      refine M_ifNM (σ' := Int × (Int × Int)) (fun (s_1 : Int × (Int × Int)) e => e = [sP uses, sV length, sV s_1.1, sV s_1.2, sO pattern, sV first, sV p.1, sV p.2]) (r := (((((((ixR uses p.1)).bind fun y_13 => ((ixR uses p.2)).bind fun y_14 => Res.ok (y_13 - y_14))).bind fun y_15 => (s_ceil_div y_15 ((2 : Int))))).bind fun y_16 => Res.ok (decide (s.1 < y_16)))) rfl trivial (T_cmp (bM (V := toD) (P_v (E_call (G_cons (bM (V := toD) (A_v (E_bin (bM (V := toD) (Q_v (E_ix (bP (V := toD) (uses : List Int) (P_s rfl) (bP (V := toD) (p.1 : Int) (P_s rfl) (y_ix uses p.1))))) fun y_13 => (bM (V := toD) (Q_v (E_ix (bP (V := toD) (uses : List Int) (P_s rfl) (bP (V := toD) (p.2 : Int) (P_s rfl) (y_ix uses p.2))))) fun y_14 => (rl_ok rfl))))) fun y_15 => (G_cons (bP (V := toD) ((2 : Int) : Int) (A_v (E_int 2)) (G_nil (c_v (c_ceil_div _ (Nat.le_trans (Nat.le_of_ble_eq_true rfl) hK) y_15 ((2 : Int))))))))))) fun y_16 => (bP (V := toD) (s.1 : Int) (P_s rfl) (rl_ok rfl)))) ?_ ?_ ?_
      · refine M_asg (W := vV) (r := (((((ixR uses p.1)).bind fun y_19 => ((ixR uses p.2)).bind fun y_20 => Res.ok (y_19 - y_20))).bind fun y_21 => (s_ceil_div y_21 ((2 : Int))))) (env2 := fun miss => [sP uses, sV length, sV miss, sV s.2.1, sO pattern, sV first, sV p.1, sV p.2]) rfl trivial (E_call (G_cons (bM (V := toD) (A_v (E_bin (bM (V := toD) (Q_v (E_ix (bP (V := toD) (uses : List Int) (P_s rfl) (bP (V := toD) (p.1 : Int) (P_s rfl) (y_ix uses p.1))))) fun y_19 => (bM (V := toD) (Q_v (E_ix (bP (V := toD) (uses : List Int) (P_s rfl) (bP (V := toD) (p.2 : Int) (P_s rfl) (y_ix uses p.2))))) fun y_20 => (rl_ok rfl))))) fun y_21 => (G_cons (bP (V := toD) ((2 : Int) : Int) (A_v (E_int 2)) (G_nil (c_v (c_ceil_div _ (Nat.le_trans (Nat.le_of_ble_eq_true rfl) hK) y_21 ((2 : Int)))))))))) (fun _ => rfl) (fun miss => ?_)
        refine M_asg (W := vV) (r := (Res.ok ((p.1, p.2)))) (env2 := fun days_1 => [sP uses, sV length, sV miss, sV days_1, sO pattern, sV first, sV p.1, sV p.2]) rfl trivial (E_tup (K_cons (bP (V := vV) (p.1 : Int) (E_v rfl) (K_cons (bP (V := vV) (p.2 : Int) (E_v rfl) (K_nil (y_tup (x := ((p.1, p.2) : Int × Int)) (Nat.le_of_ble_eq_true rfl) rfl))))))) (fun _ => rfl) (fun days_1 => ?_)
        exact M_nil0 rfl
      · exact M_nil0 rfl
      intro s_1 e h
      obtain rfl := h
      exact M_nil0 ⟨_, _, rfl⟩
    · refine M_appP (W := vV) (fun _ => rfl) (xs := (s.2.2 : List Int)) ((0 : Int) : Int) (env2 := fun pattern_1 => [sP uses, sV length, sV s.1, sV s.2.1, sO pattern_1, sV first, w2_, w3_]) rfl rfl trivial (E_int 0) (fun _ => rfl) (fun pattern_1 => ?_)
      exact M_nil0 ⟨_, _, rfl⟩
    intro s_2 e_1 h_1
    obtain ⟨w4_, w5_, rfl⟩ := h_1
    exact M_nil2 ⟨_, _, _, rfl⟩
  intro s_3 e_2 h_2
  obtain ⟨w6_, w7_, w8_, rfl⟩ := h_2
  exact M_retd (F := (owT3 owD owL owD)) (r := (Res.ok ((T3.mk s_3.1 s_3.2.2 s_3.2.1)))) (fun _ => rfl) (by decide) rfl trivial (W_tup (J_cons (bP (V := owD) (s_3.1 : Int) (W_sV (s_3.1 : Int) rfl) (J_cons (bP (V := owL) (s_3.2.2 : List Int) (W_sO (s_3.2.2 : List Int) rfl) (J_cons (bP (V := owD) (s_3.2.1 : Int × Int) (W_sV (s_3.2.1 : Int × Int) rfl) (J_nil (W_fin (x := ((T3.mk s_3.1 s_3.2.2 s_3.2.1) : T3 Int (List Int) (Int × Int))) (Nat.le_of_ble_eq_true rfl) rfl)))))))))
theorem c_law_cell (K0 : Nat) (hK : 1 ≤ K0) (script : List Int) (k : Int) : Rl rV ((SS K0).callx 6 [toD script, toD k]) (s_law_cell script k) := by
  refine SS_call (n := 0) hK rfl ?_
  intro K0 hK
  unfold s_law_cell
  refine run_sim (env := [sP script, sV k]) rfl rfl rfl ?_
  show Sim 0 _ _ _ (exss (SS K0) f_law_cell.body [sP script, sV k]) _
  refine M_ifJ ((decide (k < (script.length : Int)))) rfl (T_cmp (bP (V := toD) (k : Int) (P_s rfl) (bP (V := toD) ((script.length : Int) : Int) (P_v (E_b1 (bP (V := toD) (script : List Int) (P_s rfl) (y_len script)))) (rl_ok rfl)))) ?_ ?_
  · exact M_ret (W := vV) (fun _ => rfl) rfl trivial (E_ix (bP (V := toD) (script : List Int) (P_s rfl) (bP (V := toD) (k : Int) (P_s rfl) (y_ix script k))))
  exact M_retP (W := vV) (fun _ => rfl) ((0 : Int) : Int) rfl (E_int 0)
theorem c_law_row (K0 : Nat) (hK : 1 ≤ K0) (cell : Int) (many : Int) : Rl rO ((SS K0).callx 7 [toD cell, toD many]) (s_law_row cell many) := by
  refine SS_call (n := 0) hK rfl ?_
  intro K0 hK
  unfold s_law_row
  refine run_sim (env := [sV cell, sV many, .no, .no, .no]) rfl rfl rfl ?_
  show Sim 0 _ _ _ (exss (SS K0) f_law_row.body [sV cell, sV many, .no, .no, .no]) _
  refine M_asgP (W := vO) (([] : List Int) : List Int) (env2 := [sV cell, sV many, sO (([] : List Int) : List Int), .no, .no]) rfl (E_lst (K_nil (y_lst (xs := (([] : List Int) : List Int)) (Nat.le_of_ble_eq_true rfl) rfl))) rfl ?_
  refine M_ifJ ((decide ((1000000000000000000 : Int) ≤ cell))) rfl (T_cmp (bP (V := toD) (cell : Int) (P_s rfl) (bP (V := toD) ((1000000000000000000 : Int) : Int) (P_v (E_bin (bP (V := toD) ((10 : Int) : Int) (Q_v (E_int 10)) (bP (V := toD) ((18 : Int) : Int) (Q_v (E_int 18)) (y_pow (by decide +kernel) (by decide +kernel)))))) (rl_ok rfl)))) ?_ ?_
  · refine M_for (σ' := Int × (List Int)) (fun (s : Int × (List Int)) e => ∃ w1_, e = [sV s.1, sV many, sO s.2, w1_, .no]) ((cell, ([] : List Int))) rfl trivial (F_r1 many (E_v rfl)) ⟨_, rfl⟩ ?_ ?_
    · intro k s e h
      obtain ⟨w1_, rfl⟩ := h
      refine ⟨[sV s.1, sV many, sO s.2, sV k, .no], rfl, ?_⟩
      refine M_appP (W := vV) (fun _ => rfl) (xs := (s.2 : List Int)) ((s.1 % (1000000000 : Int)) : Int) (env2 := fun row => [sV s.1, sV many, sO row, sV k, .no]) rfl rfl trivial (E_bin (bP (V := toD) (s.1 : Int) (Q_v (E_b1 (bP (V := toD) (s.1 : Int) (P_s rfl) (rl_ok rfl)))) (bP (V := toD) ((1000000000 : Int) : Int) (Q_v (E_int 1000000000)) (y_modp (by decide))))) (fun _ => rfl) (fun row => ?_)
      refine M_asg (W := vV) (r := (Res.ok ((s.1 / (1000000000 : Int))))) (env2 := fun cell_1 => [sV cell_1, sV many, sO row, sV k, .no]) rfl trivial (E_bin (bP (V := toD) (s.1 : Int) (Q_s rfl) (bP (V := toD) ((1000000000 : Int) : Int) (Q_v (E_int 1000000000)) (y_divp (by decide))))) (fun _ => rfl) (fun cell_1 => ?_)
      exact M_nil2 ⟨_, rfl⟩
    intro s_1 e h
    obtain ⟨w2_, rfl⟩ := h
    exact M_retoO (s_1.2 : List Int) rfl rfl
  refine M_for (σ' := (List Int)) (fun (row_1 : (List Int)) e => ∃ w3_ w4_, e = [sV cell, sV many, sO row_1, w3_, w4_]) (([] : List Int) : (List Int)) rfl trivial (F_r1 many (E_v rfl)) ⟨_, _, rfl⟩ ?_ ?_
  · intro k_1 row_1 e_1 h_1
    obtain ⟨w3_, w4_, rfl⟩ := h_1
    refine ⟨[sV cell, sV many, sO row_1, sV k_1, w4_], rfl, ?_⟩
    refine M_asg (W := vV) (r := (Res.ok (((((cell * (48271 : Int)) + (k_1 * (69621 : Int))) + (4177 : Int)) % (2147483647 : Int))))) (env2 := fun mixed => [sV cell, sV many, sO row_1, sV k_1, sV mixed]) rfl trivial (E_bin (bP (V := toD) ((((cell * (48271 : Int)) + (k_1 * (69621 : Int))) + (4177 : Int)) : Int) (Q_v (E_b1 (bP (V := toD) ((((cell * (48271 : Int)) + (k_1 * (69621 : Int))) + (4177 : Int)) : Int) (P_v (E_bin (bP (V := toD) (((cell * (48271 : Int)) + (k_1 * (69621 : Int))) : Int) (Q_v (E_bin (bP (V := toD) ((cell * (48271 : Int)) : Int) (Q_v (E_bin (bP (V := toD) (cell : Int) (Q_s rfl) (bP (V := toD) ((48271 : Int) : Int) (Q_v (E_int 48271)) (y_mulr (by decide) (by decide)))))) (bP (V := toD) ((k_1 * (69621 : Int)) : Int) (Q_v (E_bin (bP (V := toD) (k_1 : Int) (Q_s rfl) (bP (V := toD) ((69621 : Int) : Int) (Q_v (E_int 69621)) (y_mulr (by decide) (by decide)))))) (rl_ok rfl))))) (bP (V := toD) ((4177 : Int) : Int) (Q_v (E_int 4177)) (rl_ok rfl))))) (rl_ok rfl)))) (bP (V := toD) ((2147483647 : Int) : Int) (Q_v (E_int 2147483647)) (y_modp (by decide))))) (fun _ => rfl) (fun mixed => ?_)
    refine M_app (W := vV) (fun _ => rfl) (xs := (row_1 : List Int)) (r := (((((((((mulR k_1 k_1)).bind fun y_12 => Res.ok (y_12 * (7919 : Int)))).bind fun y_13 => Res.ok ((mixed * (16807 : Int)) + y_13))).bind fun y_14 => Res.ok (y_14 + (271 : Int)))).bind fun y_15 => Res.ok (y_15 % (2147483629 : Int)))) (env2 := fun row_2 => [sV cell, sV many, sO row_2, sV k_1, sV mixed]) rfl rfl trivial (E_bin (bM (V := toD) (Q_v (E_intM (P_v (E_bin (bM (V := toD) (Q_v (E_bin (bP (V := toD) ((mixed * (16807 : Int)) : Int) (Q_v (E_bin (bP (V := toD) (mixed : Int) (Q_s rfl) (bP (V := toD) ((16807 : Int) : Int) (Q_v (E_int 16807)) (y_mulr (by decide) (by decide)))))) (bM (V := toD) (Q_v (E_bin (bM (V := toD) (Q_v (E_bin (bP (V := toD) (k_1 : Int) (Q_s rfl) (bP (V := toD) (k_1 : Int) (Q_s rfl) (y_mul k_1 k_1))))) fun y_12 => (bP (V := toD) ((7919 : Int) : Int) (Q_v (E_int 7919)) (y_mulr (by decide) (by decide)))))) fun y_13 => (rl_ok rfl))))) fun y_14 => (bP (V := toD) ((271 : Int) : Int) (Q_v (E_int 271)) (rl_ok rfl))))))) fun y_15 => (bP (V := toD) ((2147483629 : Int) : Int) (Q_v (E_int 2147483629)) (y_modp (by decide))))) (fun _ => rfl) (fun row_2 => ?_)
    exact M_nil2 ⟨_, _, rfl⟩
  intro row_3 e_1 h_1
  obtain ⟨w5_, w6_, rfl⟩ := h_1
  exact M_retoO (row_3 : List Int) rfl rfl
theorem c_law_is_whole (K0 : Nat) (hK : 1 ≤ K0) (value : Int) : Rl rV ((SS K0).callx 8 [toD value]) (s_law_is_whole value) := by
  refine SS_call (n := 0) hK rfl ?_
  intro K0 hK
  unfold s_law_is_whole
  refine run_sim (env := [sV value]) rfl rfl rfl ?_
  show Sim 0 _ _ _ (exss (SS K0) f_law_is_whole.body [sV value]) _
  exact M_retP (W := vV) (fun _ => rfl) ((true && (!false)) : Bool) rfl (E_and (E_isi (bP (V := toD) (value : Int) (P_s rfl) (rl_ok rfl))) (E_not (bP (V := vV) (false : Bool) (E_isi (bP (V := toD) (value : Int) (P_s rfl) (rl_ok rfl))) (rl_ok rfl))))
theorem c_law_is_whole_2 (K0 : Nat) (hK : 1 ≤ K0) (value : D) : Rl rV ((SS K0).callx 8 [toD value]) (s_law_is_whole_2 value) := by
  refine SS_call (n := 0) hK rfl ?_
  intro K0 hK
  unfold s_law_is_whole_2
  refine run_sim (env := [sA value]) rfl rfl rfl ?_
  show Sim 0 _ _ _ (exss (SS K0) f_law_is_whole.body [sA value]) _
  exact M_ret (W := vV) (fun _ => rfl) rfl trivial (E_andM (E_isi (bP (V := toD) (value : D) (P_sA value rfl) (y_isD value))) (E_not (bM (V := vV) (E_isi (bP (V := toD) (value : D) (P_sA value rfl) (y_isD value))) fun y_1 => (rl_ok rfl))))
theorem c_law_use (K0 : Nat) (hK : 1 ≤ K0) (cell : Int) (scale : Int) : Rl rV ((SS K0).callx 9 [toD cell, toD scale]) (s_law_use cell scale) := by
  refine SS_call (n := 0) hK rfl ?_
  intro K0 hK
  unfold s_law_use
  refine run_sim (env := [sV cell, sV scale]) rfl rfl rfl ?_
  show Sim 0 _ _ _ (exss (SS K0) f_law_use.body [sV cell, sV scale]) _
  refine M_ifJ ((decide ((cell % (8 : Int)) = (1 : Int)))) rfl (T_cmp (bP (V := toD) ((cell % (8 : Int)) : Int) (P_v (E_bin (bP (V := toD) (cell : Int) (Q_s rfl) (bP (V := toD) ((8 : Int) : Int) (Q_v (E_int 8)) (y_modp (by decide)))))) (bP (V := toD) ((1 : Int) : Int) (P_v (E_int 1)) (y_eq ((cell % (8 : Int)) : Int) ((1 : Int)) (Nat.le_of_ble_eq_true rfl))))) ?_ ?_
  · exact M_retP (W := vV) (fun _ => rfl) ((0 : Int) : Int) rfl (E_int 0)
  refine M_ifJ ((decide ((cell % (8 : Int)) = (2 : Int)))) rfl (T_cmp (bP (V := toD) ((cell % (8 : Int)) : Int) (P_v (E_bin (bP (V := toD) (cell : Int) (Q_s rfl) (bP (V := toD) ((8 : Int) : Int) (Q_v (E_int 8)) (y_modp (by decide)))))) (bP (V := toD) ((2 : Int) : Int) (P_v (E_int 2)) (y_eq ((cell % (8 : Int)) : Int) ((2 : Int)) (Nat.le_of_ble_eq_true rfl))))) ?_ ?_
  · exact M_retP (W := vV) (fun _ => rfl) ((1000000 : Int) : Int) rfl (E_int 1000000)
  exact M_ret (W := vV) (fun _ => rfl) rfl trivial (E_bin (bP (V := toD) ((cell / (8 : Int)) : Int) (Q_v (E_bin (bP (V := toD) (cell : Int) (Q_s rfl) (bP (V := toD) ((8 : Int) : Int) (Q_v (E_int 8)) (y_divp (by decide)))))) (bP (V := toD) (scale : Int) (Q_s rfl) (y_mod ((cell / (8 : Int))) scale))))
theorem c_law_uses (K0 : Nat) (hK : 2 ≤ K0) (row : List Int) (at_ : Int) (many : Int) (length : Int) (scale : Int) : Rl rO ((SS K0).callx 10 [toD row, toD at_, toD many, toD length, toD scale]) (s_law_uses row at_ many length scale) := by
  refine SS_call (n := 1) hK rfl ?_
  intro K0 hK
  unfold s_law_uses
  refine run_sim (env := [sP row, sV at_, sV many, sV length, sV scale, .no, .no, .no, .no]) rfl rfl rfl ?_
  show Sim 0 _ _ _ (exss (SS K0) f_law_uses.body [sP row, sV at_, sV many, sV length, sV scale, .no, .no, .no, .no]) _
  refine M_asgP (W := vO) (([] : List Int) : List Int) (env2 := [sP row, sV at_, sV many, sV length, sV scale, sO (([] : List Int) : List Int), .no, .no, .no]) rfl (E_lst (K_nil (y_lst (xs := (([] : List Int) : List Int)) (Nat.le_of_ble_eq_true rfl) rfl))) rfl ?_
  refine M_for (σ' := (List Int)) (fun (uses : (List Int)) e => ∃ w1_ w2_ w3_, e = [sP row, sV at_, sV many, sV length, sV scale, sO uses, w1_, w2_, w3_]) (([] : List Int) : (List Int)) rfl trivial (F_r1 many (E_v rfl)) ⟨_, _, _, rfl⟩ ?_ ?_
  · intro d uses e_1 h_1
    obtain ⟨w1_, w2_, w3_, rfl⟩ := h_1
    refine ⟨[sP row, sV at_, sV many, sV length, sV scale, sO uses, sV d, w2_, w3_], rfl, ?_⟩
    refine M_asg (W := vV) (r := (((ixR row ((at_ + (d % (24 : Int)))))).bind fun y_4 => ((((((ixR row ((at_ + (24 : Int))))).bind fun y_2 => Res.ok (y_2 + (1 : Int)))).bind fun y_3 => (mulR ((d / (24 : Int))) y_3))).bind fun y_5 => Res.ok (y_4 + y_5))) (env2 := fun cell => [sP row, sV at_, sV many, sV length, sV scale, sO uses, sV d, sV cell, w3_]) rfl trivial (E_bin (bM (V := toD) (Q_v (E_ix (bP (V := toD) (row : List Int) (P_s rfl) (bP (V := toD) ((at_ + (d % (24 : Int))) : Int) (P_v (E_bin (bP (V := toD) (at_ : Int) (Q_s rfl) (bP (V := toD) ((d % (24 : Int)) : Int) (Q_v (E_bin (bP (V := toD) (d : Int) (Q_s rfl) (bP (V := toD) ((24 : Int) : Int) (Q_v (E_int 24)) (y_modp (by decide)))))) (rl_ok rfl))))) (y_ix row ((at_ + (d % (24 : Int))))))))) fun y_4 => (bM (V := toD) (Q_v (E_bin (bP (V := toD) ((d / (24 : Int)) : Int) (Q_v (E_bin (bP (V := toD) (d : Int) (Q_s rfl) (bP (V := toD) ((24 : Int) : Int) (Q_v (E_int 24)) (y_divp (by decide)))))) (bM (V := toD) (Q_v (E_bin (bM (V := toD) (Q_v (E_ix (bP (V := toD) (row : List Int) (P_s rfl) (bP (V := toD) ((at_ + (24 : Int)) : Int) (P_v (E_bin (bP (V := toD) (at_ : Int) (Q_s rfl) (bP (V := toD) ((24 : Int) : Int) (Q_v (E_int 24)) (rl_ok rfl))))) (y_ix row ((at_ + (24 : Int)))))))) fun y_2 => (bP (V := toD) ((1 : Int) : Int) (Q_v (E_int 1)) (rl_ok rfl))))) fun y_3 => (y_mul ((d / (24 : Int))) y_3))))) fun y_5 => (rl_ok rfl)))) (fun _ => rfl) (fun cell => ?_)
    refine M_asg (W := vV) (r := (s_law_use cell scale)) (env2 := fun use => [sP row, sV at_, sV many, sV length, sV scale, sO uses, sV d, sV cell, sV use]) rfl trivial (E_call (G_cons (bP (V := toD) (cell : Int) (A_v (E_v rfl)) (G_cons (bP (V := toD) (scale : Int) (A_v (E_v rfl)) (G_nil (c_v (c_law_use _ (Nat.le_trans (Nat.le_of_ble_eq_true rfl) hK) cell scale)))))))) (fun _ => rfl) (fun use => ?_)
    refine M_ifN (σ' := Int) (fun (use_2 : Int) e => e = [sP row, sV at_, sV many, sV length, sV scale, sO uses, sV d, sV cell, sV use_2]) (((decide ((4 : Int) ≤ (cell % (8 : Int)))) && (decide (length ≤ d)))) rfl (T_and (T_cmp (bP (V := toD) ((cell % (8 : Int)) : Int) (P_v (E_bin (bP (V := toD) (cell : Int) (Q_s rfl) (bP (V := toD) ((8 : Int) : Int) (Q_v (E_int 8)) (y_modp (by decide)))))) (bP (V := toD) ((4 : Int) : Int) (P_v (E_int 4)) (rl_ok rfl)))) (T_cmp (bP (V := toD) (d : Int) (P_s rfl) (bP (V := toD) (length : Int) (P_s rfl) (rl_ok rfl))))) ?_ ?_ ?_
    · refine M_asg (W := vV) (r := (((((ixR uses ((d - length)))).bind fun y_6 => Res.ok (y_6 + ((cell / (8 : Int)) % (7 : Int))))).bind fun y_7 => Res.ok (min ((1000000 : Int)) y_7))) (env2 := fun use_1 => [sP row, sV at_, sV many, sV length, sV scale, sO uses, sV d, sV cell, sV use_1]) rfl trivial (E_b2 (bP (V := toD) ((1000000 : Int) : Int) (P_v (E_int 1000000)) (bM (V := toD) (P_v (E_bin (bM (V := toD) (Q_v (E_ix (bP (V := toD) (uses : List Int) (P_s rfl) (bP (V := toD) ((d - length) : Int) (P_v (E_bin (bP (V := toD) (d : Int) (Q_s rfl) (bP (V := toD) (length : Int) (Q_s rfl) (rl_ok rfl))))) (y_ix uses ((d - length))))))) fun y_6 => (bP (V := toD) (((cell / (8 : Int)) % (7 : Int)) : Int) (Q_v (E_bin (bP (V := toD) ((cell / (8 : Int)) : Int) (Q_v (E_bin (bP (V := toD) (cell : Int) (Q_s rfl) (bP (V := toD) ((8 : Int) : Int) (Q_v (E_int 8)) (y_divp (by decide)))))) (bP (V := toD) ((7 : Int) : Int) (Q_v (E_int 7)) (y_modp (by decide)))))) (rl_ok rfl))))) fun y_7 => (y_min ((1000000 : Int)) y_7)))) (fun _ => rfl) (fun use_1 => ?_)
      exact M_nil0 rfl
    · exact M_nil0 rfl
    intro use_2 e h
    obtain rfl := h
    refine M_appP (W := vV) (fun _ => rfl) (xs := (uses : List Int)) (use_2 : Int) (env2 := fun uses_1 => [sP row, sV at_, sV many, sV length, sV scale, sO uses_1, sV d, sV cell, sV use_2]) rfl rfl trivial (E_v rfl) (fun _ => rfl) (fun uses_1 => ?_)
    exact M_nil2 ⟨_, _, _, rfl⟩
  intro uses_2 e_1 h_1
  obtain ⟨w4_, w5_, w6_, rfl⟩ := h_1
  exact M_retoO (uses_2 : List Int) rfl rfl
theorem c_law_uses_wrong (K0 : Nat) (hK : 1 ≤ K0) (uses : List Int) : Rl rV ((SS K0).callx 11 [toD uses]) (s_law_uses_wrong uses) := by
  refine SS_call (n := 0) hK rfl ?_
  intro K0 hK
  unfold s_law_uses_wrong
  refine run_sim (env := [sP uses, .no]) rfl rfl rfl ?_
  show Sim 0 _ _ _ (exss (SS K0) f_law_uses_wrong.body [sP uses, .no]) _
  refine M_ifJ (!(!uses.isEmpty)) rfl (T_not (T_v (bP (V := toD) (uses : List Int) (P_s rfl) (y_trL uses)))) ?_ ?_
  · exact M_retP (W := vV) (fun _ => rfl) ((1 : Int) : Int) rfl (E_int 1)
  refine M_ifJ ((decide ((400 : Int) < (uses.length : Int)))) rfl (T_cmp (bP (V := toD) ((uses.length : Int) : Int) (P_v (E_b1 (bP (V := toD) (uses : List Int) (P_s rfl) (y_len uses)))) (bP (V := toD) ((400 : Int) : Int) (P_v (E_int 400)) (rl_ok rfl)))) ?_ ?_
  · exact M_retP (W := vV) (fun _ => rfl) ((2 : Int) : Int) rfl (E_int 2)
  refine M_forP (σ' := Unit) (fun (s : Unit) e => ∃ w1_, e = [sP uses, w1_]) (xs := uses) () rfl  (F_sP uses rfl) ⟨_, rfl⟩ ?_ ?_
  · intro use s e h
    obtain ⟨w1_, rfl⟩ := h
    refine ⟨[sP uses, sV use], rfl, ?_⟩
    refine M_ifJ (((decide (use < (0 : Int))) || (decide ((1000000 : Int) < use)))) rfl (T_or (T_cmp (bP (V := toD) (use : Int) (P_s rfl) (bP (V := toD) ((0 : Int) : Int) (P_v (E_int 0)) (rl_ok rfl)))) (T_cmp (bP (V := toD) (use : Int) (P_s rfl) (bP (V := toD) ((1000000 : Int) : Int) (P_v (E_int 1000000)) (rl_ok rfl))))) ?_ ?_
    · exact M_retP (W := vV) (fun _ => rfl) ((3 : Int) : Int) rfl (E_int 3)
    exact M_nil2 ⟨_, rfl⟩
  intro s_1 e h
  obtain ⟨w2_, rfl⟩ := h
  exact M_retP (W := vV) (fun _ => rfl) ((0 : Int) : Int) rfl (E_int 0)
theorem c_law_pattern_wrong (K0 : Nat) (hK : 1 ≤ K0) (pattern : List Int) : Rl rV ((SS K0).callx 12 [toD pattern]) (s_law_pattern_wrong pattern) := by
  refine SS_call (n := 0) hK rfl ?_
  intro K0 hK
  unfold s_law_pattern_wrong
  refine run_sim (env := [sP pattern, .no]) rfl rfl rfl ?_
  show Sim 0 _ _ _ (exss (SS K0) f_law_pattern_wrong.body [sP pattern, .no]) _
  refine M_ifJ (!(!pattern.isEmpty)) rfl (T_not (T_v (bP (V := toD) (pattern : List Int) (P_s rfl) (y_trL pattern)))) ?_ ?_
  · exact M_retP (W := vV) (fun _ => rfl) ((1 : Int) : Int) rfl (E_int 1)
  refine M_ifJ ((decide ((14 : Int) < (pattern.length : Int)))) rfl (T_cmp (bP (V := toD) ((pattern.length : Int) : Int) (P_v (E_b1 (bP (V := toD) (pattern : List Int) (P_s rfl) (y_len pattern)))) (bP (V := toD) ((14 : Int) : Int) (P_v (E_int 14)) (rl_ok rfl)))) ?_ ?_
  · exact M_retP (W := vV) (fun _ => rfl) ((4 : Int) : Int) rfl (E_int 4)
  refine M_forP (σ' := Unit) (fun (s : Unit) e => ∃ w1_, e = [sP pattern, w1_]) (xs := pattern) () rfl  (F_sP pattern rfl) ⟨_, rfl⟩ ?_ ?_
  · intro number s e h
    obtain ⟨w1_, rfl⟩ := h
    refine ⟨[sP pattern, sV number], rfl, ?_⟩
    refine M_ifJ (((decide (number < (0 : Int))) || (decide ((1000000 : Int) < number)))) rfl (T_or (T_cmp (bP (V := toD) (number : Int) (P_s rfl) (bP (V := toD) ((0 : Int) : Int) (P_v (E_int 0)) (rl_ok rfl)))) (T_cmp (bP (V := toD) (number : Int) (P_s rfl) (bP (V := toD) ((1000000 : Int) : Int) (P_v (E_int 1000000)) (rl_ok rfl))))) ?_ ?_
    · exact M_retP (W := vV) (fun _ => rfl) ((3 : Int) : Int) rfl (E_int 3)
    exact M_nil2 ⟨_, rfl⟩
  intro s_1 e h
  obtain ⟨w2_, rfl⟩ := h
  exact M_retP (W := vV) (fun _ => rfl) ((0 : Int) : Int) rfl (E_int 0)
theorem c_law_limit (K0 : Nat) (hK : 1 ≤ K0) (limit : D) : Rl rV ((SS K0).callx 13 [toD limit]) (s_law_limit limit) := by
  refine SS_call (n := 0) hK rfl ?_
  intro K0 hK
  unfold s_law_limit
  refine run_sim (env := [sA limit]) rfl rfl rfl ?_
  show Sim 0 _ _ _ (exss (SS K0) f_law_limit.body [sA limit]) _
  refine M_ifJM (r := (eqR limit ((400 : Int)))) rfl trivial (T_cmp (bP (V := toD) (limit : D) (P_sA limit rfl) (bP (V := toD) ((400 : Int) : Int) (P_v (E_int 400)) (y_eqR (limit : D) ((400 : Int) : Int))))) ?_ ?_
  · exact M_retP (W := vV) (fun _ => rfl) ((2 : Int) : Int) rfl (E_int 2)
  exact M_ret (W := vV) (fun _ => rfl) rfl trivial (E_ix (bP (V := toD) ([(6 : Int), (4 : Int)] : List Int) (P_o (E_lst (K_cons (bP (V := vV) ((6 : Int) : Int) (E_int 6) (K_cons (bP (V := vV) ((4 : Int) : Int) (E_int 4) (K_nil (y_lst (xs := ([(6 : Int), (4 : Int)] : List Int)) (Nat.le_of_ble_eq_true rfl) rfl)))))))) (bM (V := toD) (P_v (E_b1 (bM (V := toD) (P_v (E_cmp (bP (V := toD) (limit : D) (P_sA limit rfl) (bP (V := toD) ((14 : Int) : Int) (P_v (E_int 14)) (y_ofB (y_eqR (limit : D) ((14 : Int) : Int))))))) fun y_2 => (y_intB y_2)))) fun y_3 => (y_ix ([(6 : Int), (4 : Int)]) y_3))))
theorem c_law_missed (K0 : Nat) (hK : 3 ≤ K0) (uses : List Int) (pattern : List Int) : Rl rV ((SS K0).callx 14 [toD uses, toD pattern]) (s_law_missed uses pattern) := by
  refine SS_call (n := 2) hK rfl ?_
  intro K0 hK
  unfold s_law_missed
  refine run_sim (env := [sP uses, sP pattern, .no]) rfl rfl rfl ?_
  show Sim 0 _ _ _ (exss (SS K0) f_law_missed.body [sP uses, sP pattern, .no]) _
  refine M_try (σ' := Unit) (fun (_ : Unit) _ => False) (fun e => e = [sP uses, sP pattern, .no]) ?_ ?_ ?_
  · exact M_ret (W := vV) (fun _ => rfl) rfl rfl (E_tup (K_cons (bP (V := vV) ((0 : Int) : Int) (E_int 0) (K_cons (bM (V := vV) (E_call (G_cons (bP (V := toD) (uses : List Int) (A_p (P_s rfl)) (G_cons (bP (V := toD) (pattern : List Int) (A_p (P_s rfl)) (G_nil (c_v (c_pattern_miss _ (Nat.le_trans (Nat.le_of_ble_eq_true rfl) hK) uses pattern)))))))) fun y_1 => (K_nil (y_tup (x := (((0 : Int), y_1) : Int × Int)) (Nat.le_of_ble_eq_true rfl) rfl)))))))
  · intro n fs e h
    obtain rfl := h
    show HdS _ _ _ _ _
    refine hd_cons trivial (P'' := fun s e => (fun (_ : Unit) _ => False) s (dropX none e)) (fun hx => ?_) (fun _ _ h => h) ?_
    · show Sim 0 _ _ _ (exss _ _ [sP uses, sP pattern, .no]) _
      exact M_retP (W := vV) (fun _ => rfl) (((1 : Int), (0 : Int)) : Int × Int) rfl (E_tup (K_cons (bP (V := vV) ((1 : Int) : Int) (E_int 1) (K_cons (bP (V := vV) ((0 : Int) : Int) (E_int 0) (K_nil (y_tup (x := (((1 : Int), (0 : Int)) : Int × Int)) (Nat.le_of_ble_eq_true rfl) rfl)))))))
    refine hd_cons trivial (P'' := fun s e => (fun (_ : Unit) _ => False) s (dropX (some 2) e)) (fun hx => ?_) (fun _ _ h => h) ?_
    · obtain rfl := exm_eq hx (by decide)
      show Sim 0 _ _ _ (exss _ _ [sP uses, sP pattern, .exc 2 fs]) _
      exact M_ret (W := vV) (fun _ => rfl) rfl trivial (E_tup (K_cons (bM (V := vV) (E_call (G_cons (bM (V := toD) (A_p (P_v (E_xf rfl))) fun y_4 => (G_nil (c_v (c_law_limit _ (Nat.le_trans (Nat.le_of_ble_eq_true rfl) hK) y_4)))))) fun y_5 => (K_cons (bP (V := vV) ((0 : Int) : Int) (E_int 0) (K_nil (y_tup (x := ((y_5, (0 : Int)) : Int × Int)) (Nat.le_of_ble_eq_true rfl) rfl)))))))
    refine hd_cons trivial (P'' := fun s e => (fun (_ : Unit) _ => False) s (dropX none e)) (fun hx => ?_) (fun _ _ h => h) ?_
    · show Sim 0 _ _ _ (exss _ _ [sP uses, sP pattern, .no]) _
      exact M_retP (W := vV) (fun _ => rfl) (((3 : Int), (0 : Int)) : Int × Int) rfl (E_tup (K_cons (bP (V := vV) ((3 : Int) : Int) (E_int 3) (K_cons (bP (V := vV) ((0 : Int) : Int) (E_int 0) (K_nil (y_tup (x := (((3 : Int), (0 : Int)) : Int × Int)) (Nat.le_of_ble_eq_true rfl) rfl)))))))
    refine hd_cons trivial (P'' := fun s e => (fun (_ : Unit) _ => False) s (dropX none e)) (fun hx => ?_) (fun _ _ h => h) ?_
    · show Sim 0 _ _ _ (exss _ _ [sP uses, sP pattern, .no]) _
      exact M_retP (W := vV) (fun _ => rfl) (((5 : Int), (0 : Int)) : Int × Int) rfl (E_tup (K_cons (bP (V := vV) ((5 : Int) : Int) (E_int 5) (K_cons (bP (V := vV) ((0 : Int) : Int) (E_int 0) (K_nil (y_tup (x := (((5 : Int), (0 : Int)) : Int × Int)) (Nat.le_of_ble_eq_true rfl) rfl)))))))
    exact hd_nil
  intro _ _ h
  exact h.elim
theorem c_law_fit (K0 : Nat) (hK : 3 ≤ K0) (uses : List Int) (length : Int) : Rl (rD (owT2 owD (owS owD (owT3 owD owL owD)))) ((SS K0).callx 15 [toD uses, toD length]) (s_law_fit uses length) := by
  refine SS_call (n := 2) hK rfl ?_
  intro K0 hK
  unfold s_law_fit
  refine run_sim (env := [sP uses, sV length, .no]) rfl rfl rfl ?_
  show Sim 0 _ _ _ (exss (SS K0) f_law_fit.body [sP uses, sV length, .no]) _
  refine M_try (σ' := Unit) (fun (_ : Unit) _ => False) (fun e => e = [sP uses, sV length, .no]) ?_ ?_ ?_
  · exact M_retd (F := (owT2 owD (owS owD (owT3 owD owL owD)))) (r := (((((s_fit_pattern uses length)).bind fun z => Res.ok (Sum.inr z : Sum Int (T3 Int (List Int) (Int × Int))))).bind fun y_1 => Res.ok ((0 : Int), y_1))) (fun _ => rfl) (by decide) rfl rfl (W_tup (J_cons (bP (V := owD) ((0 : Int) : Int) (W_e (E_int 0)) (J_cons (bM (V := (owS owD (owT3 owD owL owD))) (W_inrM (α := Int) (β := T3 Int (List Int) (Int × Int)) (f := owD) (g := (owT3 owD owL owD)) (W_call (G_cons (bP (V := toD) (uses : List Int) (A_p (P_s rfl)) (G_cons (bP (V := toD) (length : Int) (A_v (E_v rfl)) (G_nil (w_d (c_fit_pattern _ (Nat.le_trans (Nat.le_of_ble_eq_true rfl) hK) uses length))))))))) fun y_1 => (J_nil (W_fin (x := (((0 : Int), y_1) : Int × (Sum Int (T3 Int (List Int) (Int × Int))))) (Nat.le_of_ble_eq_true rfl) rfl)))))))
  · intro n fs e h
    obtain rfl := h
    show HdS _ _ _ _ _
    refine hd_cons trivial (P'' := fun s e => (fun (_ : Unit) _ => False) s (dropX none e)) (fun hx => ?_) (fun _ _ h => h) ?_
    · show Sim 0 _ _ _ (exss _ _ [sP uses, sV length, .no]) _
      exact M_retd (F := (owT2 owD (owS owD (owT3 owD owL owD)))) (r := (Res.ok (((1 : Int), (Sum.inl ((0 : Int)) : Sum Int (T3 Int (List Int) (Int × Int))))))) (fun _ => rfl) (by decide) rfl trivial (W_tup (J_cons (bP (V := owD) ((1 : Int) : Int) (W_e (E_int 1)) (J_cons (bP (V := (owS owD (owT3 owD owL owD))) ((Sum.inl ((0 : Int)) : Sum Int (T3 Int (List Int) (Int × Int))) : Sum Int (T3 Int (List Int) (Int × Int))) (W_inl (α := Int) (β := T3 Int (List Int) (Int × Int)) (f := owD) (g := (owT3 owD owL owD)) (W_e (E_int 0))) (J_nil (W_fin (x := (((1 : Int), (Sum.inl ((0 : Int)) : Sum Int (T3 Int (List Int) (Int × Int)))) : Int × (Sum Int (T3 Int (List Int) (Int × Int))))) (Nat.le_of_ble_eq_true rfl) rfl)))))))
    refine hd_cons trivial (P'' := fun s e => (fun (_ : Unit) _ => False) s (dropX (some 2) e)) (fun hx => ?_) (fun _ _ h => h) ?_
    · obtain rfl := exm_eq hx (by decide)
      show Sim 0 _ _ _ (exss _ _ [sP uses, sV length, .exc 2 fs]) _
      exact M_retd (F := (owT2 owD (owS owD (owT3 owD owL owD)))) (r := (((((xfR fs 0)).bind fun y_4 => (s_law_limit y_4))).bind fun y_5 => Res.ok (y_5, (Sum.inl ((0 : Int)) : Sum Int (T3 Int (List Int) (Int × Int)))))) (fun _ => rfl) (by decide) rfl trivial (W_tup (J_cons (bM (V := owD) (W_e (E_call (G_cons (bM (V := toD) (A_p (P_v (E_xf rfl))) fun y_4 => (G_nil (c_v (c_law_limit _ (Nat.le_trans (Nat.le_of_ble_eq_true rfl) hK) y_4))))))) fun y_5 => (J_cons (bP (V := (owS owD (owT3 owD owL owD))) ((Sum.inl ((0 : Int)) : Sum Int (T3 Int (List Int) (Int × Int))) : Sum Int (T3 Int (List Int) (Int × Int))) (W_inl (α := Int) (β := T3 Int (List Int) (Int × Int)) (f := owD) (g := (owT3 owD owL owD)) (W_e (E_int 0))) (J_nil (W_fin (x := ((y_5, (Sum.inl ((0 : Int)) : Sum Int (T3 Int (List Int) (Int × Int)))) : Int × (Sum Int (T3 Int (List Int) (Int × Int))))) (Nat.le_of_ble_eq_true rfl) rfl)))))))
    refine hd_cons trivial (P'' := fun s e => (fun (_ : Unit) _ => False) s (dropX none e)) (fun hx => ?_) (fun _ _ h => h) ?_
    · show Sim 0 _ _ _ (exss _ _ [sP uses, sV length, .no]) _
      exact M_retd (F := (owT2 owD (owS owD (owT3 owD owL owD)))) (r := (Res.ok (((3 : Int), (Sum.inl ((0 : Int)) : Sum Int (T3 Int (List Int) (Int × Int))))))) (fun _ => rfl) (by decide) rfl trivial (W_tup (J_cons (bP (V := owD) ((3 : Int) : Int) (W_e (E_int 3)) (J_cons (bP (V := (owS owD (owT3 owD owL owD))) ((Sum.inl ((0 : Int)) : Sum Int (T3 Int (List Int) (Int × Int))) : Sum Int (T3 Int (List Int) (Int × Int))) (W_inl (α := Int) (β := T3 Int (List Int) (Int × Int)) (f := owD) (g := (owT3 owD owL owD)) (W_e (E_int 0))) (J_nil (W_fin (x := (((3 : Int), (Sum.inl ((0 : Int)) : Sum Int (T3 Int (List Int) (Int × Int)))) : Int × (Sum Int (T3 Int (List Int) (Int × Int))))) (Nat.le_of_ble_eq_true rfl) rfl)))))))
    refine hd_cons trivial (P'' := fun s e => (fun (_ : Unit) _ => False) s (dropX none e)) (fun hx => ?_) (fun _ _ h => h) ?_
    · show Sim 0 _ _ _ (exss _ _ [sP uses, sV length, .no]) _
      exact M_retd (F := (owT2 owD (owS owD (owT3 owD owL owD)))) (r := (Res.ok (((5 : Int), (Sum.inl ((0 : Int)) : Sum Int (T3 Int (List Int) (Int × Int))))))) (fun _ => rfl) (by decide) rfl trivial (W_tup (J_cons (bP (V := owD) ((5 : Int) : Int) (W_e (E_int 5)) (J_cons (bP (V := (owS owD (owT3 owD owL owD))) ((Sum.inl ((0 : Int)) : Sum Int (T3 Int (List Int) (Int × Int))) : Sum Int (T3 Int (List Int) (Int × Int))) (W_inl (α := Int) (β := T3 Int (List Int) (Int × Int)) (f := owD) (g := (owT3 owD owL owD)) (W_e (E_int 0))) (J_nil (W_fin (x := (((5 : Int), (Sum.inl ((0 : Int)) : Sum Int (T3 Int (List Int) (Int × Int)))) : Int × (Sum Int (T3 Int (List Int) (Int × Int))))) (Nat.le_of_ble_eq_true rfl) rfl)))))))
    exact hd_nil
  intro _ _ h
  exact h.elim
theorem c_law_miss (K0 : Nat) (hK : 1 ≤ K0) (uses : List Int) (pattern : List Int) : Rl rV ((SS K0).callx 16 [toD uses, toD pattern]) (s_law_miss uses pattern) := by
  refine SS_call (n := 0) hK rfl ?_
  intro K0 hK
  unfold s_law_miss
  refine run_sim (env := [sP uses, sP pattern, .no]) rfl rfl rfl ?_
  show Sim 0 _ _ _ (exss (SS K0) f_law_miss.body [sP uses, sP pattern, .no]) _
  exact M_ret (W := vV) (fun _ => rfl) rfl trivial (E_b1 (bM (V := toD) (P_o (E_compM (V := vV) (fun _ => rfl) (I_r1 ((uses.length : Int)) (E_b1 (bP (V := toD) (uses : List Int) (P_s rfl) (y_len uses)))) (fun d_3 => [sP uses, sP pattern, sV d_3]) (fun _ => rfl) (fun d_3 => (E_b1 (bM (V := toD) (P_v (E_bin (bM (V := toD) (Q_v (E_ix (bP (V := toD) (uses : List Int) (P_s rfl) (bP (V := toD) (d_3 : Int) (P_s rfl) (y_ix uses d_3))))) fun y_14 => (bM (V := toD) (Q_v (E_ix (bP (V := toD) (pattern : List Int) (P_s rfl) (bM (V := toD) (P_v (E_bin (bP (V := toD) (d_3 : Int) (Q_s rfl) (bP (V := toD) ((pattern.length : Int) : Int) (Q_v (E_b1 (bP (V := toD) (pattern : List Int) (P_s rfl) (y_len pattern)))) (y_mod d_3 ((pattern.length : Int))))))) fun y_13 => (y_ix pattern y_13))))) fun y_15 => (rl_ok rfl))))) fun y_16 => (y_abs y_16)))))) fun y_17 => (y_maxL y_17)))
theorem c_law_miss_2 (K0 : Nat) (hK : 1 ≤ K0) (uses : List Int) (pattern : D) : Rl rV ((SS K0).callx 16 [toD uses, toD pattern]) (s_law_miss_2 uses pattern) := by
  refine SS_call (n := 0) hK rfl ?_
  intro K0 hK
  unfold s_law_miss_2
  refine run_sim (env := [sP uses, sA pattern, .no]) rfl rfl rfl ?_
  show Sim 0 _ _ _ (exss (SS K0) f_law_miss.body [sP uses, sA pattern, .no]) _
  exact M_ret (W := vV) (fun _ => rfl) rfl trivial (E_b1 (bM (V := toD) (P_o (E_compM (V := vV) (fun _ => rfl) (I_r1 ((uses.length : Int)) (E_b1 (bP (V := toD) (uses : List Int) (P_s rfl) (y_len uses)))) (fun d_3 => [sP uses, sA pattern, sV d_3]) (fun _ => rfl) (fun d_3 => (E_b1 (bM (V := toD) (P_v (E_bin (bM (V := toD) (Q_v (E_ix (bP (V := toD) (uses : List Int) (P_s rfl) (bP (V := toD) (d_3 : Int) (P_s rfl) (y_ix uses d_3))))) fun y_18 => (bM (V := toD) (Q_v (cvVM cv_I (E_ix (bP (V := toD) (pattern : D) (P_sA pattern rfl) (bM (V := toD) (P_v (E_bin (bP (V := toD) (d_3 : Int) (Q_s rfl) (bM (V := toD) (Q_v (E_b1 (bP (V := toD) (pattern : D) (P_sA pattern rfl) (y_lenD pattern)))) fun y_16 => (y_mod d_3 y_16))))) fun y_17 => (y_ixD pattern y_17)))))) fun y_19 => (rl_ok rfl))))) fun y_20 => (y_abs y_20)))))) fun y_21 => (y_maxL y_21)))
theorem c_law_fits (K0 : Nat) (hK : 2 ≤ K0) (told : D) (uses : List Int) (length : Int) : Rl rV ((SS K0).callx 17 [toD told, toD uses, toD length]) (s_law_fits told uses length) := by
  refine SS_call (n := 1) hK rfl ?_
  intro K0 hK
  unfold s_law_fits
  refine run_sim (env := [sA told, sP uses, sV length, .no, .no, .no, .no, .no]) rfl rfl rfl ?_
  show Sim 0 _ _ _ (exss (SS K0) f_law_fits.body [sA told, sP uses, sV length, .no, .no, .no, .no, .no]) _
  refine M_ifJM (r := (((((isTy told .tup)).bind fun z => Res.ok (!z))).bind fun b_1 => if b_1 = true then Res.ok true else (((((lenD told)).bind fun y => Res.ok (decide (y ≠ (3 : Int))))).bind fun b => if b = true then Res.ok true else (((((ixD told ((0 : Int)))).bind fun y_1 => (s_law_is_whole_2 y_1))).bind fun z => Res.ok (!z))))) rfl trivial (T_orM (T_notM (T_vB (P_v (E_isi (bP (V := toD) (told : D) (P_sA told rfl) (y_isD told)))))) (T_orM (T_cmp (bM (V := toD) (P_v (E_b1 (bP (V := toD) (told : D) (P_sA told rfl) (y_lenD told)))) fun y => (bP (V := toD) ((3 : Int) : Int) (P_v (E_int 3)) (y_ne (y : Int) ((3 : Int)) (Nat.le_of_ble_eq_true rfl))))) (T_notM (T_vB (P_v (E_call (G_cons (bM (V := toD) (A_p (P_v (E_ix (bP (V := toD) (told : D) (P_sA told rfl) (bP (V := toD) ((0 : Int) : Int) (P_v (E_int 0)) (y_ixD told ((0 : Int)))))))) fun y_1 => (G_nil (c_v (c_law_is_whole_2 _ (Nat.le_trans (Nat.le_of_ble_eq_true rfl) hK) y_1))))))))))) ?_ ?_
  · exact M_retP (W := vV) (fun _ => rfl) (false : Bool) rfl (E_bl false)
  refine M_asg (W := vV) (r := (ixD told ((1 : Int)))) (env2 := fun pattern => [sA told, sP uses, sV length, sV pattern, .no, .no, .no, .no]) rfl trivial (E_ix (bP (V := toD) (told : D) (P_sA told rfl) (bP (V := toD) ((1 : Int) : Int) (P_v (E_int 1)) (y_ixD told ((1 : Int)))))) (fun _ => rfl) (fun pattern => ?_)
  refine M_ifJM (r := (((((isTy pattern .lst)).bind fun z => Res.ok (!z))).bind fun b_2 => if b_2 = true then Res.ok true else (((lenD pattern)).bind fun y_2 => Res.ok (decide (y_2 ≠ length))))) rfl trivial (T_orM (T_notM (T_vB (P_v (E_isi (bP (V := toD) (pattern : D) (P_s rfl) (y_isD pattern)))))) (T_cmp (bM (V := toD) (P_v (E_b1 (bP (V := toD) (pattern : D) (P_s rfl) (y_lenD pattern)))) fun y_2 => (bP (V := toD) (length : Int) (P_s rfl) (y_ne (y_2 : Int) length (Nat.le_of_ble_eq_true rfl)))))) ?_ ?_
  · exact M_retP (W := vV) (fun _ => rfl) (false : Bool) rfl (E_bl false)
  refine M_for (σ' := Unit) (fun (s : Unit) e => ∃ w1_, e = [sA told, sP uses, sV length, sV pattern, w1_, .no, .no, .no]) () rfl trivial (F_sD pattern rfl) ⟨_, rfl⟩ ?_ ?_
  · intro number s e h
    obtain ⟨w1_, rfl⟩ := h
    refine ⟨[sA told, sP uses, sV length, sV pattern, sV number, .no, .no, .no], rfl, ?_⟩
    refine M_ifJM (r := (((((s_law_is_whole_2 number)).bind fun z => Res.ok (!z))).bind fun b_3 => if b_3 = true then Res.ok true else (((((unI number)).bind fun y_3 => Res.ok ((decide ((0 : Int) ≤ y_3)) && (decide (y_3 ≤ (1000000 : Int)))))).bind fun z => Res.ok (!z)))) rfl trivial (T_orM (T_notM (T_vB (P_v (E_call (G_cons (bP (V := toD) (number : D) (A_p (P_s rfl)) (G_nil (c_v (c_law_is_whole_2 _ (Nat.le_trans (Nat.le_of_ble_eq_true rfl) hK) number))))))))) (T_notM (T_ch2 (bP (V := toD) ((0 : Int) : Int) (P_v (E_int 0)) (bM (V := toD) (cvD cv_I number (P_s rfl)) fun y_3 => (y_chT (rl_ok rfl) (bP (V := toD) ((1000000 : Int) : Int) (P_v (E_int 1000000)) (rl_ok rfl)))))))) ?_ ?_
    · exact M_retP (W := vV) (fun _ => rfl) (false : Bool) rfl (E_bl false)
    exact M_nil2 ⟨_, rfl⟩
  intro s_1 e h
  obtain ⟨w2_, rfl⟩ := h
  refine M_asg (W := vV) (r := (ixD told ((2 : Int)))) (env2 := fun days => [sA told, sP uses, sV length, sV pattern, w2_, sV days, .no, .no]) rfl trivial (E_ix (bP (V := toD) (told : D) (P_sA told rfl) (bP (V := toD) ((2 : Int) : Int) (P_v (E_int 2)) (y_ixD told ((2 : Int)))))) (fun _ => rfl) (fun days => ?_)
  refine M_ifJM (r := (((((isTy days .tup)).bind fun z => Res.ok (!z))).bind fun b_7 => if b_7 = true then Res.ok true else (((((lenD days)).bind fun y_4 => Res.ok (decide (y_4 ≠ (2 : Int))))).bind fun b_6 => if b_6 = true then Res.ok true else (((((((ixD days ((0 : Int)))).bind fun y_5 => (s_law_is_whole_2 y_5))).bind fun z => Res.ok (!z))).bind fun b_5 => if b_5 = true then Res.ok true else (((((ixD days ((1 : Int)))).bind fun y_6 => (s_law_is_whole_2 y_6))).bind fun z => Res.ok (!z)))))) rfl trivial (T_orM (T_notM (T_vB (P_v (E_isi (bP (V := toD) (days : D) (P_s rfl) (y_isD days)))))) (T_orM (T_cmp (bM (V := toD) (P_v (E_b1 (bP (V := toD) (days : D) (P_s rfl) (y_lenD days)))) fun y_4 => (bP (V := toD) ((2 : Int) : Int) (P_v (E_int 2)) (y_ne (y_4 : Int) ((2 : Int)) (Nat.le_of_ble_eq_true rfl))))) (T_orM (T_notM (T_vB (P_v (E_call (G_cons (bM (V := toD) (A_p (P_v (E_ix (bP (V := toD) (days : D) (P_s rfl) (bP (V := toD) ((0 : Int) : Int) (P_v (E_int 0)) (y_ixD days ((0 : Int)))))))) fun y_5 => (G_nil (c_v (c_law_is_whole_2 _ (Nat.le_trans (Nat.le_of_ble_eq_true rfl) hK) y_5))))))))) (T_notM (T_vB (P_v (E_call (G_cons (bM (V := toD) (A_p (P_v (E_ix (bP (V := toD) (days : D) (P_s rfl) (bP (V := toD) ((1 : Int) : Int) (P_v (E_int 1)) (y_ixD days ((1 : Int)))))))) fun y_6 => (G_nil (c_v (c_law_is_whole_2 _ (Nat.le_trans (Nat.le_of_ble_eq_true rfl) hK) y_6)))))))))))) ?_ ?_
  · exact M_retP (W := vV) (fun _ => rfl) (false : Bool) rfl (E_bl false)
  refine M_asg (W := vV) (r := (ixD days ((0 : Int)))) (env2 := fun x => [sA told, sP uses, sV length, sV pattern, w2_, sV days, sV x, .no]) rfl trivial (E_ix (bP (V := toD) (days : D) (P_s rfl) (bP (V := toD) ((0 : Int) : Int) (P_v (E_int 0)) (y_ixD days ((0 : Int)))))) (fun _ => rfl) (fun x => ?_)
  refine M_asg (W := vV) (r := (ixD days ((1 : Int)))) (env2 := fun y_7 => [sA told, sP uses, sV length, sV pattern, w2_, sV days, sV x, sV y_7]) rfl trivial (E_ix (bP (V := toD) (days : D) (P_s rfl) (bP (V := toD) ((1 : Int) : Int) (P_v (E_int 1)) (y_ixD days ((1 : Int)))))) (fun _ => rfl) (fun y_7 => ?_)
  refine M_ifJM (r := (((((((unI x)).bind fun y_8 => Res.ok ((decide ((0 : Int) ≤ y_8)) && (decide (y_8 < (uses.length : Int)))))).bind fun z => Res.ok (!z))).bind fun b_9 => if b_9 = true then Res.ok true else (((((((unI y_7)).bind fun y_9 => Res.ok ((decide ((0 : Int) ≤ y_9)) && (decide (y_9 < (uses.length : Int)))))).bind fun z => Res.ok (!z))).bind fun b_8 => if b_8 = true then Res.ok true else (((((((unI x)).bind fun y_10 => ((unI y_7)).bind fun y_11 => Res.ok (y_10 - y_11))).bind fun y_12 => (modR y_12 length))).bind fun y_13 => Res.ok (decide (y_13 ≠ (0 : Int))))))) rfl trivial (T_orM (T_notM (T_ch2 (bP (V := toD) ((0 : Int) : Int) (P_v (E_int 0)) (bM (V := toD) (cvD cv_I x (P_s rfl)) fun y_8 => (y_chT (rl_ok rfl) (bP (V := toD) ((uses.length : Int) : Int) (P_v (E_b1 (bP (V := toD) (uses : List Int) (P_s rfl) (y_len uses)))) (rl_ok rfl))))))) (T_orM (T_notM (T_ch2 (bP (V := toD) ((0 : Int) : Int) (P_v (E_int 0)) (bM (V := toD) (cvD cv_I y_7 (P_s rfl)) fun y_9 => (y_chT (rl_ok rfl) (bP (V := toD) ((uses.length : Int) : Int) (P_v (E_b1 (bP (V := toD) (uses : List Int) (P_s rfl) (y_len uses)))) (rl_ok rfl))))))) (T_cmp (bM (V := toD) (P_v (E_bin (bM (V := toD) (Q_v (E_intM (P_v (E_bin (bM (V := toD) (cvD cv_I x (Q_s rfl)) fun y_10 => (bM (V := toD) (cvD cv_I y_7 (Q_s rfl)) fun y_11 => (rl_ok rfl))))))) fun y_12 => (bP (V := toD) (length : Int) (Q_s rfl) (y_mod y_12 length))))) fun y_13 => (bP (V := toD) ((0 : Int) : Int) (P_v (E_int 0)) (y_ne (y_13 : Int) ((0 : Int)) (Nat.le_of_ble_eq_true rfl))))))) ?_ ?_
  · exact M_retP (W := vV) (fun _ => rfl) (false : Bool) rfl (E_bl false)
  exact M_ret (W := vV) (fun _ => rfl) rfl trivial (E_andM (E_cmp (bM (V := toD) (P_v (E_call (G_cons (bP (V := toD) (uses : List Int) (A_p (P_s rfl)) (G_cons (bP (V := toD) (pattern : D) (A_p (P_s rfl)) (G_nil (c_v (c_law_miss_2 _ (Nat.le_trans (Nat.le_of_ble_eq_true rfl) hK) uses pattern))))))))) fun y_30 => (bM (V := toD) (P_v (E_ix (bP (V := toD) (told : D) (P_sA told rfl) (bP (V := toD) ((0 : Int) : Int) (P_v (E_int 0)) (y_ixD told ((0 : Int))))))) fun y_31 => (y_ofB (y_eqR (y_30 : Int) (y_31 : D)))))) (E_cmp (bM (V := toD) (P_v (E_bin (bM (V := toD) (Q_v (E_bin (bM (V := toD) (Q_v (E_b1 (bM (V := toD) (P_v (E_bin (bM (V := toD) (Q_v (E_ix (bP (V := toD) (uses : List Int) (P_s rfl) (bM (V := toD) (cvD cv_I x (P_s rfl)) fun y_37 => (y_ix uses y_37))))) fun y_39 => (bM (V := toD) (Q_v (E_ix (bP (V := toD) (uses : List Int) (P_s rfl) (bM (V := toD) (cvD cv_I y_7 (P_s rfl)) fun y_38 => (y_ix uses y_38))))) fun y_40 => (rl_ok rfl))))) fun y_41 => (y_abs y_41)))) fun y_42 => (bP (V := toD) ((1 : Int) : Int) (Q_v (E_int 1)) (rl_ok rfl))))) fun y_43 => (bP (V := toD) ((2 : Int) : Int) (Q_v (E_int 2)) (y_divp (by decide)))))) fun y_44 => (bM (V := toD) (P_v (E_ix (bP (V := toD) (told : D) (P_sA told rfl) (bP (V := toD) ((0 : Int) : Int) (P_v (E_int 0)) (y_ixD told ((0 : Int))))))) fun y_45 => (y_ofB (y_eqR (y_44 : Int) (y_45 : D)))))))
theorem c_law_changed (K0 : Nat) (hK : 1 ≤ K0) (row : List Int) (at_ : Int) (numbers : List Int) (many : Int) : Rl rO ((SS K0).callx 18 [toD row, toD at_, toD numbers, toD many]) (s_law_changed row at_ numbers many) := by
  refine SS_call (n := 0) hK rfl ?_
  intro K0 hK
  unfold s_law_changed
  refine run_sim (env := [sP row, sV at_, sV numbers, sV many, .no, .no, .no, .no]) rfl rfl rfl ?_
  show Sim 0 _ _ _ (exss (SS K0) f_law_changed.body [sP row, sV at_, sV numbers, sV many, .no, .no, .no, .no]) _
  refine M_asg (W := vV) (r := (((ixR row at_)).bind fun y => (modR y ((numbers.length : Int))))) (env2 := fun place => [sP row, sV at_, sV numbers, sV many, sV place, .no, .no, .no]) rfl trivial (E_bin (bM (V := toD) (Q_v (E_ix (bP (V := toD) (row : List Int) (P_s rfl) (bP (V := toD) (at_ : Int) (P_s rfl) (y_ix row at_))))) fun y => (bP (V := toD) ((numbers.length : Int) : Int) (Q_v (E_b1 (bP (V := toD) (numbers : List Int) (P_s rfl) (y_len numbers)))) (y_mod y ((numbers.length : Int)))))) (fun _ => rfl) (fun place => ?_)
  refine M_asg (W := vV) (r := (((((((ixR row ((at_ + (1 : Int))))).bind fun y_3 => Res.ok ((-(1 : Int)) - y_3))).bind fun y_5 => ((((ixR row ((at_ + (1 : Int))))).bind fun y_4 => Res.ok ((1000001 : Int) + y_4))).bind fun y_6 => Res.ok [(-(1 : Int)), (1000001 : Int), y_5, y_6])).bind fun y_8 => ((((ixR row ((at_ + (2 : Int))))).bind fun y_7 => Res.ok (y_7 % (4 : Int)))).bind fun y_9 => (ixR y_8 y_9))) (env2 := fun bad => [sP row, sV at_, sV numbers, sV many, sV place, sV bad, .no, .no]) rfl trivial (E_ix (bM (V := toD) (P_o (E_lst (K_cons (bP (V := vV) ((-(1 : Int)) : Int) (E_neg (bP (V := vV) ((1 : Int) : Int) (E_int 1) (rl_ok rfl))) (K_cons (bP (V := vV) ((1000001 : Int) : Int) (E_int 1000001) (K_cons (bM (V := vV) (E_bin (bP (V := toD) ((-(1 : Int)) : Int) (Q_v (E_neg (bP (V := vV) ((1 : Int) : Int) (E_int 1) (rl_ok rfl)))) (bM (V := toD) (Q_v (E_ix (bP (V := toD) (row : List Int) (P_s rfl) (bP (V := toD) ((at_ + (1 : Int)) : Int) (P_v (E_bin (bP (V := toD) (at_ : Int) (Q_s rfl) (bP (V := toD) ((1 : Int) : Int) (Q_v (E_int 1)) (rl_ok rfl))))) (y_ix row ((at_ + (1 : Int)))))))) fun y_3 => (rl_ok rfl)))) fun y_5 => (K_cons (bM (V := vV) (E_bin (bP (V := toD) ((1000001 : Int) : Int) (Q_v (E_int 1000001)) (bM (V := toD) (Q_v (E_ix (bP (V := toD) (row : List Int) (P_s rfl) (bP (V := toD) ((at_ + (1 : Int)) : Int) (P_v (E_bin (bP (V := toD) (at_ : Int) (Q_s rfl) (bP (V := toD) ((1 : Int) : Int) (Q_v (E_int 1)) (rl_ok rfl))))) (y_ix row ((at_ + (1 : Int)))))))) fun y_4 => (rl_ok rfl)))) fun y_6 => (K_nil (y_lst (xs := ([(-(1 : Int)), (1000001 : Int), y_5, y_6] : List Int)) (Nat.le_of_ble_eq_true rfl) rfl)))))))))))) fun y_8 => (bM (V := toD) (P_v (E_bin (bM (V := toD) (Q_v (E_ix (bP (V := toD) (row : List Int) (P_s rfl) (bP (V := toD) ((at_ + (2 : Int)) : Int) (P_v (E_bin (bP (V := toD) (at_ : Int) (Q_s rfl) (bP (V := toD) ((2 : Int) : Int) (Q_v (E_int 2)) (rl_ok rfl))))) (y_ix row ((at_ + (2 : Int)))))))) fun y_7 => (bP (V := toD) ((4 : Int) : Int) (Q_v (E_int 4)) (y_modp (by decide)))))) fun y_9 => (y_ix y_8 y_9)))) (fun _ => rfl) (fun bad => ?_)
  refine M_asg (W := vO) (r := (((appL ((cutL numbers none (some place))) [bad])).bind fun y_10 => (appL y_10 ((cutL numbers (some ((place + (1 : Int)))) none))))) (env2 := fun spoilt => [sP row, sV at_, sV numbers, sV many, sV place, sV bad, sO spoilt, .no]) rfl trivial (E_bin (bM (V := toD) (Q_o (E_bin (bP (V := toD) ((cutL numbers none (some place)) : List Int) (Q_o (E_sl (bP (numbers : List Int) (P_s rfl) (L_none (L_some place (E_v rfl) (y_sl numbers none (some place))))))) (bP (V := toD) ([bad] : List Int) (Q_o (E_lst (K_cons (bP (V := vV) (bad : Int) (E_v rfl) (K_nil (y_lst (xs := ([bad] : List Int)) (Nat.le_of_ble_eq_true rfl) rfl)))))) (y_appL ((cutL numbers none (some place))) [bad]))))) fun y_10 => (bP (V := toD) ((cutL numbers (some ((place + (1 : Int)))) none) : List Int) (Q_o (E_sl (bP (numbers : List Int) (P_s rfl) (L_some ((place + (1 : Int))) (E_bin (bP (V := toD) (place : Int) (Q_s rfl) (bP (V := toD) ((1 : Int) : Int) (Q_v (E_int 1)) (rl_ok rfl)))) (L_none (y_sl numbers (some ((place + (1 : Int)))) none)))))) (y_appL y_10 ((cutL numbers (some ((place + (1 : Int)))) none)))))) (fun _ => rfl) (fun spoilt => ?_)
  refine M_asg (W := vV) (r := (((ixR row ((at_ + (3 : Int))))).bind fun y_11 => Res.ok (y_11 % (6 : Int)))) (env2 := fun pick => [sP row, sV at_, sV numbers, sV many, sV place, sV bad, sO spoilt, sV pick]) rfl trivial (E_bin (bM (V := toD) (Q_v (E_ix (bP (V := toD) (row : List Int) (P_s rfl) (bP (V := toD) ((at_ + (3 : Int)) : Int) (P_v (E_bin (bP (V := toD) (at_ : Int) (Q_s rfl) (bP (V := toD) ((3 : Int) : Int) (Q_v (E_int 3)) (rl_ok rfl))))) (y_ix row ((at_ + (3 : Int)))))))) fun y_11 => (bP (V := toD) ((6 : Int) : Int) (Q_v (E_int 6)) (y_modp (by decide))))) (fun _ => rfl) (fun pick => ?_)
  refine M_ifJ ((decide (pick = (0 : Int)))) rfl (T_cmp (bP (V := toD) (pick : Int) (P_s rfl) (bP (V := toD) ((0 : Int) : Int) (P_v (E_int 0)) (y_eq (pick : Int) ((0 : Int)) (Nat.le_of_ble_eq_true rfl))))) ?_ ?_
  · exact M_retP (W := vO) (fun _ => rfl) (([] : List Int) : List Int) rfl (E_lst (K_nil (y_lst (xs := (([] : List Int) : List Int)) (Nat.le_of_ble_eq_true rfl) rfl)))
  refine M_ifJ ((decide (pick = (1 : Int)))) rfl (T_cmp (bP (V := toD) (pick : Int) (P_s rfl) (bP (V := toD) ((1 : Int) : Int) (P_v (E_int 1)) (y_eq (pick : Int) ((1 : Int)) (Nat.le_of_ble_eq_true rfl))))) ?_ ?_
  · exact M_ret (W := vO) (fun _ => rfl) rfl trivial (E_sl (bM (P_o (E_bin (bP (V := toD) (numbers : List Int) (Q_s rfl) (bM (V := toD) (Q_v (E_bin (bM (V := toD) (Q_v (E_bin (bP (V := toD) (many : Int) (Q_s rfl) (bP (V := toD) ((numbers.length : Int) : Int) (Q_v (E_b1 (bP (V := toD) (numbers : List Int) (P_s rfl) (y_len numbers)))) (y_div many ((numbers.length : Int))))))) fun y_15 => (bP (V := toD) ((1 : Int) : Int) (Q_v (E_int 1)) (rl_ok rfl))))) fun y_16 => (y_repL numbers y_16))))) fun y_17 => (L_none (L_some many (E_v rfl) (y_sl y_17 none (some many))))))
  refine M_ifJ ((decide (pick = (2 : Int)))) rfl (T_cmp (bP (V := toD) (pick : Int) (P_s rfl) (bP (V := toD) ((2 : Int) : Int) (P_v (E_int 2)) (y_eq (pick : Int) ((2 : Int)) (Nat.le_of_ble_eq_true rfl))))) ?_ ?_
  · exact M_ret (W := vO) (fun _ => rfl) rfl trivial (E_sl (bM (P_o (E_bin (bP (V := toD) (spoilt : List Int) (Q_s rfl) (bM (V := toD) (Q_v (E_bin (bM (V := toD) (Q_v (E_bin (bP (V := toD) (many : Int) (Q_s rfl) (bP (V := toD) ((numbers.length : Int) : Int) (Q_v (E_b1 (bP (V := toD) (numbers : List Int) (P_s rfl) (y_len numbers)))) (y_div many ((numbers.length : Int))))))) fun y_21 => (bP (V := toD) ((1 : Int) : Int) (Q_v (E_int 1)) (rl_ok rfl))))) fun y_22 => (y_repL spoilt y_22))))) fun y_23 => (L_none (L_some many (E_v rfl) (y_sl y_23 none (some many))))))
  refine M_ifJ ((decide (pick = (3 : Int)))) rfl (T_cmp (bP (V := toD) (pick : Int) (P_s rfl) (bP (V := toD) ((3 : Int) : Int) (P_v (E_int 3)) (y_eq (pick : Int) ((3 : Int)) (Nat.le_of_ble_eq_true rfl))))) ?_ ?_
  · exact M_retoO (spoilt : List Int) rfl rfl
  exact M_retP (W := vO) (fun _ => rfl) (numbers : List Int) rfl (E_b1 (bP (V := toD) (numbers : List Int) (P_s rfl) (y_list numbers)))
theorem c_law_refusals (K0 : Nat) (hK : 4 ≤ K0) (row : List Int) (at_ : Int) (uses : List Int) (pattern : List Int) (length : Int) : Rl rV ((SS K0).callx 19 [toD row, toD at_, toD uses, toD pattern, toD length]) (s_law_refusals row at_ uses pattern length) := by
  refine SS_call (n := 3) hK rfl ?_
  intro K0 hK
  unfold s_law_refusals
  refine run_sim (env := [sP row, sV at_, sV uses, sV pattern, sV length, .no, .no, .no, .no, .no, .no]) rfl rfl rfl ?_
  show Sim 0 _ _ _ (exss (SS K0) f_law_refusals.body [sP row, sV at_, sV uses, sV pattern, sV length, .no, .no, .no, .no, .no, .no]) _
  refine M_asg (W := vO) (r := (s_law_changed row at_ uses ((401 : Int)))) (env2 := fun others => [sP row, sV at_, sV uses, sV pattern, sV length, sO others, .no, .no, .no, .no, .no]) rfl trivial (E_call (G_cons (bP (V := toD) (row : List Int) (A_p (P_s rfl)) (G_cons (bP (V := toD) (at_ : Int) (A_v (E_v rfl)) (G_cons (bP (V := toD) (uses : List Int) (A_v (E_v rfl)) (G_cons (bP (V := toD) ((401 : Int) : Int) (A_v (E_int 401)) (G_nil (c_o (c_law_changed _ (Nat.le_trans (Nat.le_of_ble_eq_true rfl) hK) row at_ uses ((401 : Int)))))))))))))) (fun _ => rfl) (fun others => ?_)
  refine M_asg (W := vO) (r := (s_law_changed row ((at_ + (4 : Int))) pattern ((15 : Int)))) (env2 := fun another => [sP row, sV at_, sV uses, sV pattern, sV length, sO others, sO another, .no, .no, .no, .no]) rfl trivial (E_call (G_cons (bP (V := toD) (row : List Int) (A_p (P_s rfl)) (G_cons (bP (V := toD) ((at_ + (4 : Int)) : Int) (A_v (E_bin (bP (V := toD) (at_ : Int) (Q_s rfl) (bP (V := toD) ((4 : Int) : Int) (Q_v (E_int 4)) (rl_ok rfl))))) (G_cons (bP (V := toD) (pattern : List Int) (A_v (E_v rfl)) (G_cons (bP (V := toD) ((15 : Int) : Int) (A_v (E_int 15)) (G_nil (c_o (c_law_changed _ (Nat.le_trans (Nat.le_of_ble_eq_true rfl) hK) row ((at_ + (4 : Int))) pattern ((15 : Int)))))))))))))) (fun _ => rfl) (fun another => ?_)
  refine M_ifNM (σ' := Int) (fun (length_2 : Int) e => e = [sP row, sV at_, sV uses, sV pattern, sV length_2, sO others, sO another, .no, .no, .no, .no]) (r := (((((ixR row ((at_ + (8 : Int))))).bind fun y => Res.ok (y % (4 : Int)))).bind fun y_1 => Res.ok (decide (y_1 = (1 : Int))))) rfl trivial (T_cmp (bM (V := toD) (P_v (E_bin (bM (V := toD) (Q_v (E_ix (bP (V := toD) (row : List Int) (P_s rfl) (bP (V := toD) ((at_ + (8 : Int)) : Int) (P_v (E_bin (bP (V := toD) (at_ : Int) (Q_s rfl) (bP (V := toD) ((8 : Int) : Int) (Q_v (E_int 8)) (rl_ok rfl))))) (y_ix row ((at_ + (8 : Int)))))))) fun y => (bP (V := toD) ((4 : Int) : Int) (Q_v (E_int 4)) (y_modp (by decide)))))) fun y_1 => (bP (V := toD) ((1 : Int) : Int) (P_v (E_int 1)) (y_eq (y_1 : Int) ((1 : Int)) (Nat.le_of_ble_eq_true rfl))))) ?_ ?_ ?_
  · refine M_asg (W := vV) (r := (((((((ixR row ((at_ + (9 : Int))))).bind fun y_4 => Res.ok (-y_4))).bind fun y_6 => ((((ixR row ((at_ + (9 : Int))))).bind fun y_5 => Res.ok ((15 : Int) + y_5))).bind fun y_7 => Res.ok [(0 : Int), (15 : Int), y_6, y_7])).bind fun y_10 => ((((((ixR row ((at_ + (8 : Int))))).bind fun y_8 => Res.ok (y_8 / (4 : Int)))).bind fun y_9 => Res.ok (y_9 % (4 : Int)))).bind fun y_11 => (ixR y_10 y_11))) (env2 := fun length_1 => [sP row, sV at_, sV uses, sV pattern, sV length_1, sO others, sO another, .no, .no, .no, .no]) rfl trivial (E_ix (bM (V := toD) (P_o (E_lst (K_cons (bP (V := vV) ((0 : Int) : Int) (E_int 0) (K_cons (bP (V := vV) ((15 : Int) : Int) (E_int 15) (K_cons (bM (V := vV) (E_neg (bM (V := vV) (E_ix (bP (V := toD) (row : List Int) (P_s rfl) (bP (V := toD) ((at_ + (9 : Int)) : Int) (P_v (E_bin (bP (V := toD) (at_ : Int) (Q_s rfl) (bP (V := toD) ((9 : Int) : Int) (Q_v (E_int 9)) (rl_ok rfl))))) (y_ix row ((at_ + (9 : Int))))))) fun y_4 => (rl_ok rfl))) fun y_6 => (K_cons (bM (V := vV) (E_bin (bP (V := toD) ((15 : Int) : Int) (Q_v (E_int 15)) (bM (V := toD) (Q_v (E_ix (bP (V := toD) (row : List Int) (P_s rfl) (bP (V := toD) ((at_ + (9 : Int)) : Int) (P_v (E_bin (bP (V := toD) (at_ : Int) (Q_s rfl) (bP (V := toD) ((9 : Int) : Int) (Q_v (E_int 9)) (rl_ok rfl))))) (y_ix row ((at_ + (9 : Int)))))))) fun y_5 => (rl_ok rfl)))) fun y_7 => (K_nil (y_lst (xs := ([(0 : Int), (15 : Int), y_6, y_7] : List Int)) (Nat.le_of_ble_eq_true rfl) rfl)))))))))))) fun y_10 => (bM (V := toD) (P_v (E_bin (bM (V := toD) (Q_v (E_bin (bM (V := toD) (Q_v (E_ix (bP (V := toD) (row : List Int) (P_s rfl) (bP (V := toD) ((at_ + (8 : Int)) : Int) (P_v (E_bin (bP (V := toD) (at_ : Int) (Q_s rfl) (bP (V := toD) ((8 : Int) : Int) (Q_v (E_int 8)) (rl_ok rfl))))) (y_ix row ((at_ + (8 : Int)))))))) fun y_8 => (bP (V := toD) ((4 : Int) : Int) (Q_v (E_int 4)) (y_divp (by decide)))))) fun y_9 => (bP (V := toD) ((4 : Int) : Int) (Q_v (E_int 4)) (y_modp (by decide)))))) fun y_11 => (y_ix y_10 y_11)))) (fun _ => rfl) (fun length_1 => ?_)
    exact M_nil0 rfl
  · exact M_nil0 rfl
  intro length_2 e h
  obtain rfl := h
  refine M_asg (W := vO) (r := (Res.ok ([others, another]))) (env2 := fun kept => [sP row, sV at_, sV uses, sV pattern, sV length_2, sO others, sO another, sO kept, .no, .no, .no]) rfl trivial (E_lst (K_cons (bP (V := vO) (others : List Int) (E_b1 (bP (V := toD) (others : List Int) (P_s rfl) (y_list others))) (K_cons (bP (V := vO) (another : List Int) (E_b1 (bP (V := toD) (another : List Int) (P_s rfl) (y_list another))) (K_nil (y_lst (xs := ([others, another] : List (List Int))) (Nat.le_of_ble_eq_true rfl) rfl))))))) (fun _ => rfl) (fun kept => ?_)
  refine M_asg (W := vV) (r := (s_law_uses_wrong others)) (env2 := fun due => [sP row, sV at_, sV uses, sV pattern, sV length_2, sO others, sO another, sO kept, sV due, .no, .no]) rfl trivial (E_call (G_cons (bP (V := toD) (others : List Int) (A_p (P_s rfl)) (G_nil (c_v (c_law_uses_wrong _ (Nat.le_trans (Nat.le_of_ble_eq_true rfl) hK) others)))))) (fun _ => rfl) (fun due => ?_)
  refine M_asg (W := vV) (r := (s_law_missed others another)) (env2 := fun missed => [sP row, sV at_, sV uses, sV pattern, sV length_2, sO others, sO another, sO kept, sV due, sV missed, .no]) rfl trivial (E_call (G_cons (bP (V := toD) (others : List Int) (A_p (P_s rfl)) (G_cons (bP (V := toD) (another : List Int) (A_p (P_s rfl)) (G_nil (c_v (c_law_missed _ (Nat.le_trans (Nat.le_of_ble_eq_true rfl) hK) others another)))))))) (fun _ => rfl) (fun missed => ?_)
  refine M_asg (W := vV) (r := (s_law_fit others length_2)) (env2 := fun fit => [sP row, sV at_, sV uses, sV pattern, sV length_2, sO others, sO another, sO kept, sV due, sV missed, sV fit]) rfl trivial (E_call (G_cons (bP (V := toD) (others : List Int) (A_p (P_s rfl)) (G_cons (bP (V := toD) (length_2 : Int) (A_v (E_v rfl)) (G_nil (c_d (owT2_ok owD_ok (owS_ok owD_ok (owT3_ok owD_ok owL_ok owD_ok))) (c_law_fit _ (Nat.le_trans (Nat.le_of_ble_eq_true rfl) hK) others length_2)))))))) (fun _ => rfl) (fun fit => ?_)
  refine M_ifJ ((decide (kept ≠ [others, another]))) rfl (T_cmp (bP (V := toD) (kept : List (List Int)) (P_s rfl) (bP (V := toD) ([others, another] : List (List Int)) (P_o (E_lst (K_cons (bP (V := vV) (others : List Int) (E_v rfl) (K_cons (bP (V := vV) (another : List Int) (E_v rfl) (K_nil (y_lst (xs := ([others, another] : List (List Int))) (Nat.le_of_ble_eq_true rfl) rfl)))))))) (y_ne (kept : List (List Int)) ([others, another]) (Nat.le_of_ble_eq_true rfl))))) ?_ ?_
  · exact M_retP (W := vV) (fun _ => rfl) (false : Bool) rfl (E_bl false)
  refine M_ifJ (((decide (due = (0 : Int))) && (!((decide ((1 : Int) ≤ length_2)) && (decide (length_2 ≤ (14 : Int))))))) rfl (T_and (T_cmp (bP (V := toD) (due : Int) (P_s rfl) (bP (V := toD) ((0 : Int) : Int) (P_v (E_int 0)) (y_eq (due : Int) ((0 : Int)) (Nat.le_of_ble_eq_true rfl))))) (T_not (T_ch2 (bP (V := toD) ((1 : Int) : Int) (P_v (E_int 1)) (bP (V := toD) (length_2 : Int) (P_s rfl) (y_chT (rl_ok rfl) (bP (V := toD) ((14 : Int) : Int) (P_v (E_int 14)) (rl_ok rfl)))))))) ?_ ?_
  · exact M_ret (W := vV) (fun _ => rfl) rfl trivial (E_andM (E_cmp (bP (V := toD) (fit : Int × (Sum Int (T3 Int (List Int) (Int × Int)))) (P_s rfl) (bP (V := toD) (((3 : Int), (0 : Int)) : Int × Int) (P_v (E_tup (K_cons (bP (V := vV) ((3 : Int) : Int) (E_int 3) (K_cons (bP (V := vV) ((0 : Int) : Int) (E_int 0) (K_nil (y_tup (x := (((3 : Int), (0 : Int)) : Int × Int)) (Nat.le_of_ble_eq_true rfl) rfl)))))))) (y_ofB (y_eqR (fit : Int × (Sum Int (T3 Int (List Int) (Int × Int)))) (((3 : Int), (0 : Int)) : Int × Int)))))) (E_cmp (bP (V := toD) (missed.1 : Int) (P_v (E_ix (bP (V := toD) (missed : Int × Int) (P_s rfl) (bP (V := toD) ((0 : Int) : Int) (P_v (E_int 0)) (rl_ok rfl))))) (bM (V := toD) (P_v (E_call (G_cons (bP (V := toD) (another : List Int) (A_p (P_s rfl)) (G_nil (c_v (c_law_pattern_wrong _ (Nat.le_trans (Nat.le_of_ble_eq_true rfl) hK) another))))))) fun y_13 => (y_ofB (y_eq (missed.1 : Int) y_13 (Nat.le_of_ble_eq_true rfl)))))))
  refine M_ifJ ((decide (due = (0 : Int)))) rfl (T_cmp (bP (V := toD) (due : Int) (P_s rfl) (bP (V := toD) ((0 : Int) : Int) (P_v (E_int 0)) (y_eq (due : Int) ((0 : Int)) (Nat.le_of_ble_eq_true rfl))))) ?_ ?_
  · exact M_ret (W := vV) (fun _ => rfl) rfl trivial (E_andI (E_cmp (bP (V := toD) (fit.1 : Int) (P_v (E_ix (bP (V := toD) (fit : Int × (Sum Int (T3 Int (List Int) (Int × Int)))) (P_s rfl) (bP (V := toD) ((0 : Int) : Int) (P_v (E_int 0)) (rl_ok rfl))))) (bP (V := toD) ((0 : Int) : Int) (P_v (E_int 0)) (y_ofB (y_eq (fit.1 : Int) ((0 : Int)) (Nat.le_of_ble_eq_true rfl)))))) (E_andM (E_call (G_cons (bP (V := toD) ((toD fit.2) : D) (A_p (P_v (co_anyV fit.2 (E_ix (bP (V := toD) (fit : Int × (Sum Int (T3 Int (List Int) (Int × Int)))) (P_s rfl) (bP (V := toD) ((1 : Int) : Int) (P_v (E_int 1)) (rl_ok rfl))))))) (G_cons (bP (V := toD) (others : List Int) (A_p (P_s rfl)) (G_cons (bP (V := toD) (length_2 : Int) (A_v (E_v rfl)) (G_nil (c_v (c_law_fits _ (Nat.le_trans (Nat.le_of_ble_eq_true rfl) hK) ((toD fit.2)) others length_2)))))))))) (E_cmp (bP (V := toD) (missed.1 : Int) (P_v (E_ix (bP (V := toD) (missed : Int × Int) (P_s rfl) (bP (V := toD) ((0 : Int) : Int) (P_v (E_int 0)) (rl_ok rfl))))) (bM (V := toD) (P_v (E_call (G_cons (bP (V := toD) (another : List Int) (A_p (P_s rfl)) (G_nil (c_v (c_law_pattern_wrong _ (Nat.le_trans (Nat.le_of_ble_eq_true rfl) hK) another))))))) fun y_15 => (y_ofB (y_eq (missed.1 : Int) y_15 (Nat.le_of_ble_eq_true rfl))))))))
  exact M_ret (W := vV) (fun _ => rfl) rfl trivial (E_andM (E_cmp (bP (V := toD) (fit : Int × (Sum Int (T3 Int (List Int) (Int × Int)))) (P_s rfl) (bP (V := toD) ((due, (0 : Int)) : Int × Int) (P_v (E_tup (K_cons (bP (V := vV) (due : Int) (E_v rfl) (K_cons (bP (V := vV) ((0 : Int) : Int) (E_int 0) (K_nil (y_tup (x := ((due, (0 : Int)) : Int × Int)) (Nat.le_of_ble_eq_true rfl) rfl)))))))) (y_ofB (y_eqR (fit : Int × (Sum Int (T3 Int (List Int) (Int × Int)))) ((due, (0 : Int)) : Int × Int)))))) (E_cmp (bP (V := toD) (missed : Int × Int) (P_s rfl) (bP (V := toD) ((due, (0 : Int)) : Int × Int) (P_v (E_tup (K_cons (bP (V := vV) (due : Int) (E_v rfl) (K_cons (bP (V := vV) ((0 : Int) : Int) (E_int 0) (K_nil (y_tup (x := ((due, (0 : Int)) : Int × Int)) (Nat.le_of_ble_eq_true rfl) rfl)))))))) (y_ofB (y_eq (missed : Int × Int) ((due, (0 : Int))) (Nat.le_of_ble_eq_true rfl)))))))
theorem c_law (K0 : Nat) (hK : 5 ≤ K0) (script : List Int) : Rl rV ((SS K0).callx 20 [toD script]) (s_law script) := by
  refine SS_call (n := 4) hK rfl ?_
  intro K0 hK
  unfold s_law
  refine run_sim (env := [sP script, .no, .no, .no, .no, .no, .no, .no, .no, .no, .no, .no, .no, .no]) rfl rfl rfl ?_
  show Sim 0 _ _ _ (exss (SS K0) f_law.body [sP script, .no, .no, .no, .no, .no, .no, .no, .no, .no, .no, .no, .no, .no]) _
  refine M_asg (W := vO) (r := (((s_law_cell script ((0 : Int)))).bind fun y => (s_law_row y ((50 : Int))))) (env2 := fun row => [sP script, sO row, .no, .no, .no, .no, .no, .no, .no, .no, .no, .no, .no, .no]) rfl trivial (E_call (G_cons (bM (V := toD) (A_v (E_call (G_cons (bP (V := toD) (script : List Int) (A_p (P_s rfl)) (G_cons (bP (V := toD) ((0 : Int) : Int) (A_p (P_v (E_int 0))) (G_nil (c_v (c_law_cell _ (Nat.le_trans (Nat.le_of_ble_eq_true rfl) hK) script ((0 : Int))))))))))) fun y => (G_cons (bP (V := toD) ((50 : Int) : Int) (A_v (E_int 50)) (G_nil (c_o (c_law_row _ (Nat.le_trans (Nat.le_of_ble_eq_true rfl) hK) y ((50 : Int)))))))))) (fun _ => rfl) (fun row => ?_)
  refine M_asg (W := vO) (r := (((s_law_cell script ((1 : Int)))).bind fun y_1 => (s_law_row y_1 ((12 : Int))))) (env2 := fun more => [sP script, sO row, sO more, .no, .no, .no, .no, .no, .no, .no, .no, .no, .no, .no]) rfl trivial (E_call (G_cons (bM (V := toD) (A_v (E_call (G_cons (bP (V := toD) (script : List Int) (A_p (P_s rfl)) (G_cons (bP (V := toD) ((1 : Int) : Int) (A_p (P_v (E_int 1))) (G_nil (c_v (c_law_cell _ (Nat.le_trans (Nat.le_of_ble_eq_true rfl) hK) script ((1 : Int))))))))))) fun y_1 => (G_cons (bP (V := toD) ((12 : Int) : Int) (A_v (E_int 12)) (G_nil (c_o (c_law_row _ (Nat.le_trans (Nat.le_of_ble_eq_true rfl) hK) y_1 ((12 : Int)))))))))) (fun _ => rfl) (fun more => ?_)
  refine M_asg (W := vV) (r := (((((ixR row ((0 : Int)))).bind fun y_3 => Res.ok (y_3 % (14 : Int)))).bind fun y_4 => Res.ok (y_4 + (1 : Int)))) (env2 := fun length => [sP script, sO row, sO more, sV length, .no, .no, .no, .no, .no, .no, .no, .no, .no, .no]) rfl trivial (E_bin (bM (V := toD) (Q_v (E_bin (bM (V := toD) (Q_v (E_ix (bP (V := toD) (row : List Int) (P_s rfl) (bP (V := toD) ((0 : Int) : Int) (P_v (E_int 0)) (y_ix row ((0 : Int))))))) fun y_3 => (bP (V := toD) ((14 : Int) : Int) (Q_v (E_int 14)) (y_modp (by decide)))))) fun y_4 => (bP (V := toD) ((1 : Int) : Int) (Q_v (E_int 1)) (rl_ok rfl)))) (fun _ => rfl) (fun length => ?_)
  refine M_asg (W := vV) (r := (((((ixR row ((1 : Int)))).bind fun y_5 => Res.ok (y_5 % (3 : Int)))).bind fun y_6 => (ixR ([(12 : Int), (1003 : Int), (1000001 : Int)]) y_6))) (env2 := fun scale => [sP script, sO row, sO more, sV length, sV scale, .no, .no, .no, .no, .no, .no, .no, .no, .no]) rfl trivial (E_ix (bP (V := toD) ([(12 : Int), (1003 : Int), (1000001 : Int)] : List Int) (P_o (E_lst (K_cons (bP (V := vV) ((12 : Int) : Int) (E_int 12) (K_cons (bP (V := vV) ((1003 : Int) : Int) (E_int 1003) (K_cons (bP (V := vV) ((1000001 : Int) : Int) (E_int 1000001) (K_nil (y_lst (xs := ([(12 : Int), (1003 : Int), (1000001 : Int)] : List Int)) (Nat.le_of_ble_eq_true rfl) rfl)))))))))) (bM (V := toD) (P_v (E_bin (bM (V := toD) (Q_v (E_ix (bP (V := toD) (row : List Int) (P_s rfl) (bP (V := toD) ((1 : Int) : Int) (P_v (E_int 1)) (y_ix row ((1 : Int))))))) fun y_5 => (bP (V := toD) ((3 : Int) : Int) (Q_v (E_int 3)) (y_modp (by decide)))))) fun y_6 => (y_ix ([(12 : Int), (1003 : Int), (1000001 : Int)]) y_6)))) (fun _ => rfl) (fun scale => ?_)
  refine M_asg (W := vV) (r := (((((ixR row ((2 : Int)))).bind fun y_8 => Res.ok (y_8 % (24 : Int)))).bind fun y_9 => Res.ok (y_9 + (1 : Int)))) (env2 := fun many => [sP script, sO row, sO more, sV length, sV scale, sV many, .no, .no, .no, .no, .no, .no, .no, .no]) rfl trivial (E_bin (bM (V := toD) (Q_v (E_bin (bM (V := toD) (Q_v (E_ix (bP (V := toD) (row : List Int) (P_s rfl) (bP (V := toD) ((2 : Int) : Int) (P_v (E_int 2)) (y_ix row ((2 : Int))))))) fun y_8 => (bP (V := toD) ((24 : Int) : Int) (Q_v (E_int 24)) (y_modp (by decide)))))) fun y_9 => (bP (V := toD) ((1 : Int) : Int) (Q_v (E_int 1)) (rl_ok rfl)))) (fun _ => rfl) (fun many => ?_)
  refine M_ifNM (σ' := Int) (fun (many_1 : Int) e => e = [sP script, sO row, sO more, sV length, sV scale, sV many_1, .no, .no, .no, .no, .no, .no, .no, .no]) (r := (((((((ixR row ((2 : Int)))).bind fun y_10 => Res.ok (y_10 / (24 : Int)))).bind fun y_11 => Res.ok (y_11 % (8 : Int)))).bind fun y_12 => Res.ok (decide (y_12 = (3 : Int))))) rfl trivial (T_cmp (bM (V := toD) (P_v (E_bin (bM (V := toD) (Q_v (E_bin (bM (V := toD) (Q_v (E_ix (bP (V := toD) (row : List Int) (P_s rfl) (bP (V := toD) ((2 : Int) : Int) (P_v (E_int 2)) (y_ix row ((2 : Int))))))) fun y_10 => (bP (V := toD) ((24 : Int) : Int) (Q_v (E_int 24)) (y_divp (by decide)))))) fun y_11 => (bP (V := toD) ((8 : Int) : Int) (Q_v (E_int 8)) (y_modp (by decide)))))) fun y_12 => (bP (V := toD) ((3 : Int) : Int) (P_v (E_int 3)) (y_eq (y_12 : Int) ((3 : Int)) (Nat.le_of_ble_eq_true rfl))))) ?_ ?_ ?_
  · refine M_asgP (W := vV) ((400 : Int) : Int) (env2 := [sP script, sO row, sO more, sV length, sV scale, sV ((400 : Int) : Int), .no, .no, .no, .no, .no, .no, .no, .no]) rfl (E_int 400) rfl ?_
    exact M_nil0 rfl
  · exact M_nil0 rfl
  intro many_1 e h
  obtain rfl := h
  refine M_asg (W := vO) (r := (s_law_uses row ((3 : Int)) many_1 length scale)) (env2 := fun uses => [sP script, sO row, sO more, sV length, sV scale, sV many_1, sO uses, .no, .no, .no, .no, .no, .no, .no]) rfl trivial (E_call (G_cons (bP (V := toD) (row : List Int) (A_p (P_s rfl)) (G_cons (bP (V := toD) ((3 : Int) : Int) (A_v (E_int 3)) (G_cons (bP (V := toD) (many_1 : Int) (A_v (E_v rfl)) (G_cons (bP (V := toD) (length : Int) (A_v (E_v rfl)) (G_cons (bP (V := toD) (scale : Int) (A_v (E_v rfl)) (G_nil (c_o (c_law_uses _ (Nat.le_trans (Nat.le_of_ble_eq_true rfl) hK) row ((3 : Int)) many_1 length scale)))))))))))))) (fun _ => rfl) (fun uses => ?_)
  refine M_asg (W := vO) (r := (((((((((ixR row ((42 : Int)))).bind fun y_14 => Res.ok (y_14 % (14 : Int)))).bind fun y_15 => Res.ok (y_15 + (1 : Int)))).bind fun y_16 => rngR 0 y_16)).bind fun xs => compM (fun (k : Int) => (((ixR row (((28 : Int) + k)))).bind fun y_17 => (s_law_use y_17 scale))) xs)) (env2 := fun pattern => [sP script, sO row, sO more, sV length, sV scale, sV many_1, sO uses, sO pattern, .no, .no, .no, .no, .no, .no]) rfl trivial (E_compM (V := vV) (fun _ => rfl) (I_r1M (E_bin (bM (V := toD) (Q_v (E_bin (bM (V := toD) (Q_v (E_ix (bP (V := toD) (row : List Int) (P_s rfl) (bP (V := toD) ((42 : Int) : Int) (P_v (E_int 42)) (y_ix row ((42 : Int))))))) fun y_14 => (bP (V := toD) ((14 : Int) : Int) (Q_v (E_int 14)) (y_modp (by decide)))))) fun y_15 => (bP (V := toD) ((1 : Int) : Int) (Q_v (E_int 1)) (rl_ok rfl))))) (fun k => [sP script, sO row, sO more, sV length, sV scale, sV many_1, sO uses, .no, sV k, .no, .no, .no, .no, .no]) (fun _ => rfl) (fun k => (E_call (G_cons (bM (V := toD) (A_v (E_ix (bP (V := toD) (row : List Int) (P_s rfl) (bP (V := toD) (((28 : Int) + k) : Int) (P_v (E_bin (bP (V := toD) ((28 : Int) : Int) (Q_v (E_int 28)) (bP (V := toD) (k : Int) (Q_s rfl) (rl_ok rfl))))) (y_ix row (((28 : Int) + k))))))) fun y_17 => (G_cons (bP (V := toD) (scale : Int) (A_v (E_v rfl)) (G_nil (c_v (c_law_use _ (Nat.le_trans (Nat.le_of_ble_eq_true rfl) hK) y_17 scale)))))))))) (fun _ => rfl) (fun pattern => ?_)
  refine M_asg (W := vO) (r := (((rngR 0 length)).bind fun xs_1 => compM (fun (k_1 : Int) => (((ixR row (((28 : Int) + k_1)))).bind fun y_18 => (s_law_use y_18 scale))) xs_1)) (env2 := fun other => [sP script, sO row, sO more, sV length, sV scale, sV many_1, sO uses, sO pattern, .no, sO other, .no, .no, .no, .no]) rfl trivial (E_compM (V := vV) (fun _ => rfl) (I_r1 length (E_v rfl)) (fun k_1 => [sP script, sO row, sO more, sV length, sV scale, sV many_1, sO uses, sO pattern, sV k_1, .no, .no, .no, .no, .no]) (fun _ => rfl) (fun k_1 => (E_call (G_cons (bM (V := toD) (A_v (E_ix (bP (V := toD) (row : List Int) (P_s rfl) (bP (V := toD) (((28 : Int) + k_1) : Int) (P_v (E_bin (bP (V := toD) ((28 : Int) : Int) (Q_v (E_int 28)) (bP (V := toD) (k_1 : Int) (Q_s rfl) (rl_ok rfl))))) (y_ix row (((28 : Int) + k_1))))))) fun y_18 => (G_cons (bP (V := toD) (scale : Int) (A_v (E_v rfl)) (G_nil (c_v (c_law_use _ (Nat.le_trans (Nat.le_of_ble_eq_true rfl) hK) y_18 scale)))))))))) (fun _ => rfl) (fun other => ?_)
  refine M_asgP (W := vO) (uses : List Int) (env2 := [sP script, sO row, sO more, sV length, sV scale, sV many_1, sO uses, sO pattern, .no, sO other, sO uses, .no, .no, .no]) rfl (E_b1 (bP (V := toD) (uses : List Int) (P_s rfl) (y_list uses))) rfl ?_
  refine M_asgo (F := (owT2 owD (owS owD (owT3 owD owL owD)))) (r := (s_law_fit uses length)) (env2 := fun told => [sP script, sO row, sO more, sV length, sV scale, sV many_1, sO uses, sO pattern, .no, sO other, sO uses, sD (owT2 owD (owS owD (owT3 owD owL owD))) (told : Int × (Sum Int (T3 Int (List Int) (Int × Int)))), .no, .no]) rfl rfl trivial (W_call (G_cons (bP (V := toD) (uses : List Int) (A_p (P_s rfl)) (G_cons (bP (V := toD) (length : Int) (A_v (E_v rfl)) (G_nil (w_d (c_law_fit _ (Nat.le_trans (Nat.le_of_ble_eq_true rfl) hK) uses length)))))))) (fun _ => rfl) (fun told => ?_)
  refine M_ifJT (r := (if (decide (told.1 ≠ (0 : Int))) = true then Res.ok true else (if (decide (uses ≠ uses)) = true then Res.ok true else (((s_law_fits ((toD told.2)) uses length)).bind fun z => Res.ok (!z))))) rfl (T_T (owT2_ok owD_ok (owS_ok owD_ok (owT3_ok owD_ok owL_ok owD_ok))) (x := (told : Int × (Sum Int (T3 Int (List Int) (Int × Int))))) rfl (T_orI (T_cmp (bP (V := toD) (told.1 : Int) (P_v (E_ix (bP (V := toD) (told : Int × (Sum Int (T3 Int (List Int) (Int × Int)))) (P_s rfl) (bP (V := toD) ((0 : Int) : Int) (P_v (E_int 0)) (rl_ok rfl))))) (bP (V := toD) ((0 : Int) : Int) (P_v (E_int 0)) (y_ne (told.1 : Int) ((0 : Int)) (Nat.le_of_ble_eq_true rfl))))) (T_orI (T_cmp (bP (V := toD) (uses : List Int) (P_s rfl) (bP (V := toD) (uses : List Int) (P_s rfl) (y_ne (uses : List Int) uses (Nat.le_of_ble_eq_true rfl))))) (T_notM (T_vB (P_v (E_call (G_cons (bP (V := toD) ((toD told.2) : D) (A_p (P_v (co_anyV told.2 (E_ix (bP (V := toD) (told : Int × (Sum Int (T3 Int (List Int) (Int × Int)))) (P_s rfl) (bP (V := toD) ((1 : Int) : Int) (P_v (E_int 1)) (rl_ok rfl))))))) (G_cons (bP (V := toD) (uses : List Int) (A_p (P_s rfl)) (G_cons (bP (V := toD) (length : Int) (A_v (E_v rfl)) (G_nil (c_v (c_law_fits _ (Nat.le_trans (Nat.le_of_ble_eq_true rfl) hK) ((toD told.2)) uses length)))))))))))))))) ?_ ?_
  · exact M_retP (W := vV) (fun _ => rfl) (false : Bool) rfl (E_bl false)
  refine M_asgT (r := (((ixD ((toD told.2)) ((0 : Int)))).bind unI)) (env2 := fun least => [sP script, sO row, sO more, sV length, sV scale, sV many_1, sO uses, sO pattern, .no, sO other, sO uses, sD (owT2 owD (owS owD (owT3 owD owL owD))) (told : Int × (Sum Int (T3 Int (List Int) (Int × Int)))), sV least, .no]) rfl (T_E (owT2_ok owD_ok (owS_ok owD_ok (owT3_ok owD_ok owL_ok owD_ok))) (x := (told : Int × (Sum Int (T3 Int (List Int) (Int × Int))))) rfl (cvVM cv_I (E_ix (bP (V := toD) ((toD told.2) : D) (P_v (co_anyV told.2 (E_ix (bP (V := toD) (told : Int × (Sum Int (T3 Int (List Int) (Int × Int)))) (P_s rfl) (bP (V := toD) ((1 : Int) : Int) (P_v (E_int 1)) (rl_ok rfl)))))) (bP (V := toD) ((0 : Int) : Int) (P_v (E_int 0)) (y_ixD ((toD told.2)) ((0 : Int)))))))) (fun _ => rfl) (fun _ => rfl) (fun least => ?_)
  refine sim_unR fun y_19 h_1 => ?_
  refine M_appd (w := (owT2 owD (owS owD (owT3 owD owL owD))) told) (is := [1, 1]) (ys := (y_19.b : List Int)) (r := (Res.ok ((0 : Int)))) (w' := fun ys => (owT2 owD (owS owD (owT3 owD owL owD))) (told.1, (Sum.inr ((T3.mk y_19.a ys y_19.c)) : Sum Int (T3 Int (List Int) (Int × Int))))) (env2 := fun ys => [sP script, sO row, sO more, sV length, sV scale, sV many_1, sO uses, sO pattern, .no, sO other, sO uses, sD (owT2 owD (owS owD (owT3 owD owL owD))) ((told.1, (Sum.inr ((T3.mk y_19.a ys y_19.c)) : Sum Int (T3 Int (List Int) (Int × Int)))) : Int × (Sum Int (T3 Int (List Int) (Int × Int)))), sV least, .no]) rfl rfl rfl (by show nav ((owS owD (owT3 owD owL owD)) told.2) [1] = _; rw [h_1]; rfl) (E_int 0) (fun _ => rfl) (fun ys => by show (putO ((owS owD (owT3 owD owL owD)) told.2) [1] _).map _ = _; rw [h_1]; rfl) (fun _ => rfl) (fun ys => ?_)
  refine M_asg (W := vV) (r := (s_law_missed uses pattern)) (env2 := fun missed => [sP script, sO row, sO more, sV length, sV scale, sV many_1, sO uses, sO pattern, .no, sO other, sO uses, sD (owT2 owD (owS owD (owT3 owD owL owD))) ((told.1, (Sum.inr ((T3.mk y_19.a ys y_19.c)) : Sum Int (T3 Int (List Int) (Int × Int)))) : Int × (Sum Int (T3 Int (List Int) (Int × Int)))), sV least, sV missed]) rfl trivial (E_call (G_cons (bP (V := toD) (uses : List Int) (A_p (P_s rfl)) (G_cons (bP (V := toD) (pattern : List Int) (A_p (P_o (E_b1 (bP (V := toD) (pattern : List Int) (P_s rfl) (y_list pattern))))) (G_nil (c_v (c_law_missed _ (Nat.le_trans (Nat.le_of_ble_eq_true rfl) hK) uses pattern)))))))) (fun _ => rfl) (fun missed => ?_)
  refine M_ifJM (r := (((((((s_law_miss uses pattern)).bind fun y_20 => Res.ok ((0 : Int), y_20))).bind fun y_21 => Res.ok (decide (missed ≠ y_21)))).bind fun b => if b = true then Res.ok true else (((s_law_is_whole missed.2)).bind fun z => Res.ok (!z)))) rfl trivial (T_orM (T_cmp (bP (V := toD) (missed : Int × Int) (P_s rfl) (bM (V := toD) (P_v (E_tup (K_cons (bP (V := vV) ((0 : Int) : Int) (E_int 0) (K_cons (bM (V := vV) (E_call (G_cons (bP (V := toD) (uses : List Int) (A_p (P_s rfl)) (G_cons (bP (V := toD) (pattern : List Int) (A_p (P_s rfl)) (G_nil (c_v (c_law_miss _ (Nat.le_trans (Nat.le_of_ble_eq_true rfl) hK) uses pattern)))))))) fun y_20 => (K_nil (y_tup (x := (((0 : Int), y_20) : Int × Int)) (Nat.le_of_ble_eq_true rfl) rfl)))))))) fun y_21 => (y_ne (missed : Int × Int) y_21 (Nat.le_of_ble_eq_true rfl))))) (T_notM (T_vB (P_v (E_call (G_cons (bP (V := toD) (missed.2 : Int) (A_p (P_v (E_ix (bP (V := toD) (missed : Int × Int) (P_s rfl) (bP (V := toD) ((1 : Int) : Int) (P_v (E_int 1)) (rl_ok rfl)))))) (G_nil (c_v (c_law_is_whole _ (Nat.le_trans (Nat.le_of_ble_eq_true rfl) hK) missed.2)))))))))) ?_ ?_
  · exact M_retP (W := vV) (fun _ => rfl) (false : Bool) rfl (E_bl false)
  refine M_appP (W := vV) (fun _ => rfl) (xs := (uses : List Int)) ((1000001 : Int) : Int) (env2 := fun given => [sP script, sO row, sO more, sV length, sV scale, sV many_1, sO uses, sO pattern, .no, sO other, sO given, sD (owT2 owD (owS owD (owT3 owD owL owD))) ((told.1, (Sum.inr ((T3.mk y_19.a ys y_19.c)) : Sum Int (T3 Int (List Int) (Int × Int)))) : Int × (Sum Int (T3 Int (List Int) (Int × Int)))), sV least, sV missed]) rfl rfl trivial (E_int 1000001) (fun _ => rfl) (fun given => ?_)
  refine M_asg (W := vV) (r := (s_law_missed uses other)) (env2 := fun missed_1 => [sP script, sO row, sO more, sV length, sV scale, sV many_1, sO uses, sO pattern, .no, sO other, sO given, sD (owT2 owD (owS owD (owT3 owD owL owD))) ((told.1, (Sum.inr ((T3.mk y_19.a ys y_19.c)) : Sum Int (T3 Int (List Int) (Int × Int)))) : Int × (Sum Int (T3 Int (List Int) (Int × Int)))), sV least, sV missed_1]) rfl trivial (E_call (G_cons (bP (V := toD) (uses : List Int) (A_p (P_o (E_b1 (bP (V := toD) (uses : List Int) (P_s rfl) (y_list uses))))) (G_cons (bP (V := toD) (other : List Int) (A_p (P_o (E_b1 (bP (V := toD) (other : List Int) (P_s rfl) (y_list other))))) (G_nil (c_v (c_law_missed _ (Nat.le_trans (Nat.le_of_ble_eq_true rfl) hK) uses other)))))))) (fun _ => rfl) (fun missed_1 => ?_)
  refine M_ifJM (r := (((((((s_law_miss uses other)).bind fun y_22 => Res.ok ((0 : Int), y_22))).bind fun y_23 => Res.ok (decide (missed_1 ≠ y_23)))).bind fun b_1 => if b_1 = true then Res.ok true else Res.ok (decide (missed_1.2 < least)))) rfl trivial (T_orM (T_cmp (bP (V := toD) (missed_1 : Int × Int) (P_s rfl) (bM (V := toD) (P_v (E_tup (K_cons (bP (V := vV) ((0 : Int) : Int) (E_int 0) (K_cons (bM (V := vV) (E_call (G_cons (bP (V := toD) (uses : List Int) (A_p (P_s rfl)) (G_cons (bP (V := toD) (other : List Int) (A_p (P_s rfl)) (G_nil (c_v (c_law_miss _ (Nat.le_trans (Nat.le_of_ble_eq_true rfl) hK) uses other)))))))) fun y_22 => (K_nil (y_tup (x := (((0 : Int), y_22) : Int × Int)) (Nat.le_of_ble_eq_true rfl) rfl)))))))) fun y_23 => (y_ne (missed_1 : Int × Int) y_23 (Nat.le_of_ble_eq_true rfl))))) (T_cmp (bP (V := toD) (missed_1.2 : Int) (P_v (E_ix (bP (V := toD) (missed_1 : Int × Int) (P_s rfl) (bP (V := toD) ((1 : Int) : Int) (P_v (E_int 1)) (rl_ok rfl))))) (bP (V := toD) (least : Int) (P_s rfl) (rl_ok rfl))))) ?_ ?_
  · exact M_retP (W := vV) (fun _ => rfl) (false : Bool) rfl (E_bl false)
  exact M_ret (W := vV) (fun _ => rfl) rfl trivial (E_andM (E_call (G_cons (bP (V := toD) (more : List Int) (A_p (P_s rfl)) (G_cons (bP (V := toD) ((0 : Int) : Int) (A_v (E_int 0)) (G_cons (bP (V := toD) (uses : List Int) (A_v (E_v rfl)) (G_cons (bP (V := toD) (pattern : List Int) (A_v (E_v rfl)) (G_cons (bP (V := toD) (length : Int) (A_v (E_v rfl)) (G_nil (c_v (c_law_refusals _ (Nat.le_trans (Nat.le_of_ble_eq_true rfl) hK) more ((0 : Int)) uses pattern length)))))))))))))) (E_call (G_cons (bM (V := toD) (A_p (P_v (rl_map (V := vV) (E_call (G_cons (bP (V := toD) (uses : List Int) (A_p (P_o (E_b1 (bP (V := toD) (uses : List Int) (P_s rfl) (y_list uses))))) (G_cons (bP (V := toD) (length : Int) (A_v (E_v rfl)) (G_nil (c_d (owT3_ok owD_ok owL_ok owD_ok) (c_fit_pattern _ (Nat.le_trans (Nat.le_of_ble_eq_true rfl) hK) uses length)))))))) fun _ => rfl))) fun y_25 => (G_cons (bP (V := toD) (uses : List Int) (A_p (P_s rfl)) (G_cons (bP (V := toD) (length : Int) (A_v (E_v rfl)) (G_nil (c_v (c_law_fits _ (Nat.le_trans (Nat.le_of_ble_eq_true rfl) hK) y_25 uses length)))))))))))
theorem math_of {lv : Nat} (hl : 5 ≤ lv) {ns : List Int} (h : s_law ns = .ok true) : sem (tblOf T) 1000 lv 20 [.lst (ns.map D.int)] = .ok (.val (.bl true)) := by
  have c := c_law lv hl ns
  rw [h] at c
  unfold sem
  have c : semx (tblOf T) 1000 lv 20 [.lst (ns.map D.int)] = .ok (.v (.val (.bl true))) := c
  rw [c]
  rfl
end PL.K38
set_option linter.all false
set_option Elab.async false
set_option maxRecDepth 100000
set_option maxHeartbeats 1000000
/-! The plain law of k38. -/
namespace PL.K38
open PySem (Str)
/-! ### cells, rows -/
theorem cell_eq (script : List Int) (k : Int) (hk : 0 ≤ k) : s_law_cell script k = .ok (script.getD k.toNat 0) := by
  unfold s_law_cell
  by_cases h : k < (script.length : Int)
  · rw [decide_eq_true h, if_pos rfl, ixR_getD 0 hk h]
    rfl
  · rw [decide_eq_false h, if_neg (by decide)]
    rw [List.getD_eq_getElem?_getD, List.getElem?_eq_none (by omega)]
    rfl
theorem row_gv (cell : Int) (m : Nat) (hm : m < 1000) : Gv (s_law_row cell m) fun R => R.length = m ∧ ∀ x ∈ R, 0 ≤ x := by
  have hS := SLe
  unfold s_law_row
  refine grun (gif (fun _ => ?_) (fun _ => ?_))
  · refine gfl_eq _ (rngR_nat (by omega)) ?_
    refine gfb (gfor_rng (fun i s => s.2.length = i ∧ ∀ x ∈ s.2, 0 ≤ x) ⟨rfl, fun x h => by cases h⟩ fun i s hi ⟨h1, h2⟩ => ?_) fun s h => gret h
    refine gfl (gapp (by omega)) fun row e => gok (gnx ?_)
    subst e
    refine ⟨by rw [List.length_append, h1]; rfl, fun x hx => ?_⟩
    rcases List.mem_append.mp hx with hx | hx
    · exact h2 x hx
    · rw [List.mem_singleton.mp hx]
      omega
  · refine gfl_eq _ (rngR_nat (by omega)) ?_
    refine gfb (gfor_rng (fun i s => s.length = i ∧ ∀ x ∈ s, 0 ≤ x) ⟨rfl, fun x h => by cases h⟩ fun i s hi ⟨h1, h2⟩ => ?_) fun s h => gret h
    refine gok ?_
    simp only [mulR_l (a := (i : Int)) (by omega) (by omega), Res.bind_ok, Res.fl_ok]
    refine gfl (gapp (by omega)) fun row e => gnx ?_
    subst e
    refine ⟨by rw [List.length_append, h1]; rfl, fun x hx => ?_⟩
    rcases List.mem_append.mp hx with hx | hx
    · exact h2 x hx
    · rw [List.mem_singleton.mp hx]
      omega
/-! ### values of no known type -/
theorem gokl {α ρ σ : Type} {r : Res α} {P : α → Prop} {k : α → Fl ρ σ} {S' : σ → Prop} {R : ρ → Prop} (h : Gv r P) (h2 : ∀ a, P a → GvF (k a) S' R) : GvF (r.okl k) S' R := by
  obtain ⟨a, e, h⟩ := h
  rw [e]
  exact h2 a h
theorem gokl_eq {α ρ σ : Type} {r : Res α} {k : α → Fl ρ σ} {S' : σ → Prop} {R : ρ → Prop} (a : α) (h : r = .ok a) (h2 : GvF (k a) S' R) : GvF (r.okl k) S' R := by
  rw [h]
  exact h2
theorem eqR_of {α β γ : Type} [Emb α] [Emb β] [Emb γ] [EqC γ] (hd : EqC.dep γ ≤ 60) {x : α} {y : β} (x' y' : γ) (hx : Emb.d x = Emb.d x') (hy : Emb.d y = Emb.d y') [Decidable (x' = y')] : eqR x y = .ok (decide (x' = y')) := by
  unfold eqR
  rw [hx, hy, EqC.ok 60 x' hd, EqC.ok 60 y' hd, Bool.and_self, if_pos rfl]
  refine congrArg Res.ok ?_
  rw [Bool.eq_iff_iff, EqC.eq, decide_eq_true_iff]
theorem eqR_self {α β γ : Type} [Emb α] [Emb β] [Emb γ] [EqC γ] (hd : EqC.dep γ ≤ 60) {x : α} {y : β} (z : γ) (hx : Emb.d x = Emb.d z) (hy : Emb.d y = Emb.d z) : eqR x y = .ok true := by
  unfold eqR
  rw [hx, hy, EqC.ok 60 z hd, Bool.and_self, if_pos rfl]
  exact congrArg Res.ok ((EqC.eq z z).mpr rfl)
theorem neR_self {α β γ : Type} [Emb α] [Emb β] [Emb γ] [EqC γ] (hd : EqC.dep γ ≤ 60) {x : α} {y : β} (z : γ) (hx : Emb.d x = Emb.d z) (hy : Emb.d y = Emb.d z) : neR x y = .ok false := by
  unfold neR
  rw [hx, hy, EqC.ok 60 z hd, Bool.and_self, if_pos rfl, (EqC.eq z z).mpr rfl]
  rfl
theorem eqR_str {s t : Str} (hs : PySem.PyData.strOk s = true) (ht : PySem.PyData.strOk t = true) : eqR s t = .ok (s == t) := by
  unfold eqR
  show (if eqOk 60 (.str s) && eqOk 60 (.str t) then Res.ok (eqD (.str s) (.str t)) else .bad) = _
  rw [eqOk, eqOk, hs, ht, Bool.and_self, if_pos rfl, eqD]
theorem neR_tag {α β γ : Type} [Emb α] [Emb β] [Emb γ] [EqC γ] (hd : EqC.dep γ ≤ 59) {s : Str} (hs : PySem.PyData.strOk s = true) (hb : (s == s) = true) {x : α} {y : β} (z : γ) (hx : Emb.d x = .tup [.str s, Emb.d z]) (hy : Emb.d y = .tup [.str s, Emb.d z]) : neR x y = .ok false := by
  unfold neR
  have e : eqOk 60 (.tup [.str s, Emb.d z]) = true := by
    simp only [eqOk, eqOks, hs, EqC.ok 59 z hd, Bool.and_self]
  have e2 : eqD (.tup [.str s, Emb.d z]) (.tup [.str s, Emb.d z]) = true := by
    simp only [eqD, eqDs, hb, (EqC.eq z z).mpr rfl, Bool.and_self]
  rw [hx, hy, e, e2, Bool.and_self, if_pos rfl]
  rfl
theorem ixD_ints {xs : List Int} {i : Int} (h0 : 0 ≤ i) (h : i < xs.length) : (ixD (toD xs) i).bind unI = .ok (xs.getD i.toNat 0) := by
  have e : ixD (toD xs) i = .ok (.int (xs.getD i.toNat 0)) := by
    unfold ixD
    show index (.lst (xs.map D.int)) (.int i) = _
    have hl : i < ((xs.map D.int).length : Int) := by rw [List.length_map]; exact h
    have : ixNat (xs.map D.int).length i = some i.toNat := by
      unfold ixNat
      rw [if_pos h0, if_pos hl]
    simp only [index, this, Option.bind_some]
    rw [List.getElem?_map, List.getD_eq_getElem?_getD, List.getElem?_eq_getElem (by omega)]
    rfl
  rw [e]
  unfold unI
  rfl
/-! ### loops that look for one fault (as in own42c), the greatest of a list (as in notes17) -/
theorem forF_chkM {α ρ : Type} {body : α → Unit → Fl ρ Unit} (p : α → Bool) (n : Nat) (fs : List PL.D) : ∀ xs : List α, (∀ x ∈ xs, body x () = if p x = true then .err n fs else .nx ()) → forF body xs () = if xs.any p = true then .err n fs else .nx ()
  | [], _ => rfl
  | x :: xs, hb => by
    rw [forF_cons, hb x (List.mem_cons_self ..), List.any_cons]
    cases p x with
    | true => rfl
    | false => exact forF_chkM p n fs xs fun y hy => hb y (List.mem_cons_of_mem _ hy)
theorem forF_rtM {α ρ : Type} {body : α → Unit → Fl ρ Unit} (p : α → Bool) (r : ρ) : ∀ xs : List α, (∀ x ∈ xs, body x () = if p x = true then .ret r else .nx ()) → forF body xs () = if xs.any p = true then .ret r else .nx ()
  | [], _ => rfl
  | x :: xs, hb => by
    rw [forF_cons, hb x (List.mem_cons_self ..), List.any_cons]
    cases p x with
    | true => rfl
    | false => exact forF_rtM p r xs fun y hy => hb y (List.mem_cons_of_mem _ hy)
theorem anyDays {n : Nat} {q : Nat → Bool} : ((daysFrom 0 n).any fun k => q k.toNat) = false ↔ ∀ k, k < n → q k = false := by
  rw [List.any_eq_false]
  constructor
  · intro h k hk
    have := h (k : Int) (List.mem_of_getElem? (i := k) (by rw [daysFrom_get 0 n k hk]; exact congrArg some (by omega)))
    rw [Int.toNat_natCast] at this
    exact Bool.not_eq_true _ ▸ this
  · intro h x hx
    obtain ⟨a, b⟩ := daysFrom_mem hx
    rw [h x.toNat (by omega)]
    decide
theorem maxR_gv {xs : List Int} (h : xs ≠ []) : Gv (maxR xs) fun v => v ∈ xs ∧ ∀ x ∈ xs, x ≤ v := by
  cases xs with
  | nil => exact absurd rfl h
  | cons a xs =>
    have key : ∀ (xs : List Int) (a : Int), (xs.foldl max a = a ∨ xs.foldl max a ∈ xs) ∧ a ≤ xs.foldl max a ∧ ∀ x ∈ xs, x ≤ xs.foldl max a := fun xs => by
      induction xs with
      | nil => intro a; exact ⟨.inl rfl, Int.le_refl _, fun x h => by cases h⟩
      | cons y ys ih =>
        intro a
        obtain ⟨h1, h2, h3⟩ := ih (max a y)
        rw [List.foldl_cons]
        refine ⟨?_, by omega, fun x hx => ?_⟩
        · rcases h1 with h1 | h1
          · rcases Int.le_total a y with q | q
            · exact .inr (by rw [h1, Int.max_eq_right q]; exact List.mem_cons_self)
            · exact .inl (by rw [h1, Int.max_eq_left q])
          · exact .inr (List.mem_cons_of_mem _ h1)
        · rcases List.mem_cons.mp hx with hx | hx
          · subst hx; omega
          · exact h3 x hx
    obtain ⟨h1, h2, h3⟩ := key xs a
    refine ⟨xs.foldl max a, by unfold maxR; rfl, ?_, fun x hx => ?_⟩
    · rcases h1 with h1 | h1
      · rw [h1]; exact List.mem_cons_self
      · exact List.mem_cons_of_mem _ h1
    · rcases List.mem_cons.mp hx with hx | hx
      · subst hx; exact h2
      · exact h3 x hx
/-! ### fitted patterns: the checks, the two days of a class -/
def gI (xs : List Int) (m : Nat) : Int := xs.getD m 0
theorem ixR_gI {xs : List Int} {i : Nat} (h : i < xs.length) : ixR xs (i : Int) = .ok (gI xs i) := by
  rw [ixR_getD 0 (by omega) (by omega), Int.toNat_natCast]
  rfl
theorem gI_app1 {xs ys : List Int} {k : Nat} (h : k < xs.length) : gI (xs ++ ys) k = gI xs k := by
  unfold gI
  rw [List.getD_eq_getElem?_getD, List.getD_eq_getElem?_getD, List.getElem?_append_left h]
theorem gI_app2 {xs : List Int} {v : Int} : gI (xs ++ [v]) xs.length = v := by
  unfold gI
  rw [List.getD_eq_getElem?_getD, List.getElem?_append_right (Nat.le_refl _), Nat.sub_self]
  rfl
theorem gI_mem {xs : List Int} {k : Nat} (h : k < xs.length) : gI xs k ∈ xs := by
  unfold gI
  rw [List.getD_eq_getElem?_getD, List.getElem?_eq_getElem h]
  exact List.getElem_mem h
def inB (x : Int) : Bool := decide (0 ≤ x) && decide (x ≤ 1000000)
theorem inB_iff {x : Int} : inB x = true ↔ 0 ≤ x ∧ x ≤ 1000000 := by
  unfold inB
  rw [Bool.and_eq_true, decide_eq_true_iff, decide_eq_true_iff]
def ck (n : Nat) (m1 m2 : Str) (xs : List Int) : Res Unit := if xs.isEmpty = true then .err 3 [toD m1] else if n < xs.length then .err 2 [toD (n : Int)] else if xs.any (fun x => !inB x) = true then .err 1 [toD m2] else .ok ()
def due (n : Nat) (k : Int) (xs : List Int) : Int := if xs.isEmpty = true then 1 else if n < xs.length then k else if xs.any (fun x => !inB x) = true then 3 else 0
theorem any_in {xs : List Int} : xs.any (fun x => !inB x) = false ↔ ∀ x ∈ xs, 0 ≤ x ∧ x ≤ 1000000 := by
  rw [List.any_eq_false]
  constructor
  · intro h x hx
    have := h x hx
    rw [Bool.not_eq_true, Bool.not_eq_false'] at this
    exact inB_iff.mp this
  · intro h x hx
    rw [inB_iff.mpr (h x hx)]
    decide
theorem ck_cases (n : Nat) (k : Int) (m1 m2 : Str) (xs : List Int) :
    (due n k xs = 1 ∧ ck n m1 m2 xs = .err 3 [toD m1]) ∨ (due n k xs = k ∧ ck n m1 m2 xs = .err 2 [toD (n : Int)]) ∨ (due n k xs = 3 ∧ ck n m1 m2 xs = .err 1 [toD m2]) ∨ (due n k xs = 0 ∧ ck n m1 m2 xs = .ok () ∧ 0 < xs.length ∧ xs.length ≤ n ∧ ∀ x ∈ xs, 0 ≤ x ∧ x ≤ 1000000) := by
  unfold due ck
  by_cases h : xs.isEmpty = true
  · exact .inl ⟨by rw [if_pos h], by rw [if_pos h]⟩
  · rw [if_neg h, if_neg h]
    by_cases h2 : n < xs.length
    · exact .inr (.inl ⟨by rw [if_pos h2], by rw [if_pos h2]⟩)
    · rw [if_neg h2, if_neg h2]
      by_cases h3 : xs.any (fun x => !inB x) = true
      · exact .inr (.inr (.inl ⟨by rw [if_pos h3], by rw [if_pos h3]⟩))
      · refine .inr (.inr (.inr ⟨by rw [if_neg h3], by rw [if_neg h3], ?_, by omega, any_in.mp (Bool.not_eq_true _ ▸ h3)⟩))
        cases xs with
        | nil => exact absurd rfl h
        | cons _ _ => exact Nat.zero_lt_succ _
theorem check_pattern_eq (xs : List Int) : s_check_pattern xs = ck 14 "no number in the pattern" "number of a pattern" xs := by
  unfold s_check_pattern ck
  cases hx : xs.isEmpty with
  | true => rfl
  | false =>
    rw [if_neg (show ¬ (!(!false)) = true by decide), if_neg (show ¬ false = true by decide)]
    by_cases h : 14 < xs.length
    · rw [if_pos h, if_pos (show decide ((14 : Int) < (xs.length : Int)) = true by rw [decide_eq_true_iff]; omega)]
      rfl
    · rw [if_neg h, if_neg (show ¬ decide ((14 : Int) < (xs.length : Int)) = true by rw [decide_eq_true_iff]; omega), forF_chkM (fun x => !inB x) 1 [toD ("number of a pattern" : Str)] xs fun x _ => rfl]
      split <;> rfl
theorem check_fitted_eq (xs : List Int) : s_check_fitted xs = ck 400 "no use" "use" xs := by
  unfold s_check_fitted ck
  cases hx : xs.isEmpty with
  | true => rfl
  | false =>
    rw [if_neg (show ¬ (!(!false)) = true by decide), if_neg (show ¬ false = true by decide)]
    by_cases h : 400 < xs.length
    · rw [if_pos h, if_pos (show decide ((400 : Int) < (xs.length : Int)) = true by rw [decide_eq_true_iff]; omega)]
      rfl
    · rw [if_neg h, if_neg (show ¬ decide ((400 : Int) < (xs.length : Int)) = true by rw [decide_eq_true_iff]; omega), forF_chkM (fun x => !inB x) 1 [toD ("use" : Str)] xs fun x _ => rfl]
      split <;> rfl
theorem out_in (x : Int) : (decide (x < 0) || decide (1000000 < x)) = !inB x := by
  unfold inB
  by_cases h : x < 0 <;> by_cases h2 : 1000000 < x
  · omega
  · rw [decide_eq_true h, decide_eq_false (show ¬ 0 ≤ x by omega)]; rfl
  · rw [decide_eq_false h, decide_eq_true h2, decide_eq_true (show 0 ≤ x by omega), decide_eq_false (show ¬ x ≤ 1000000 by omega)]; rfl
  · rw [decide_eq_false h, decide_eq_false h2, decide_eq_true (show 0 ≤ x by omega), decide_eq_true (show x ≤ 1000000 by omega)]; rfl
theorem uses_wrong_eq (xs : List Int) : s_law_uses_wrong xs = .ok (due 400 2 xs) := by
  unfold s_law_uses_wrong due
  cases hx : xs.isEmpty with
  | true => rfl
  | false =>
    rw [if_neg (show ¬ (!(!false)) = true by decide), if_neg (show ¬ false = true by decide)]
    by_cases h : 400 < xs.length
    · rw [if_pos h, if_pos (show decide ((400 : Int) < (xs.length : Int)) = true by rw [decide_eq_true_iff]; omega)]
      rfl
    · rw [if_neg h, if_neg (show ¬ decide ((400 : Int) < (xs.length : Int)) = true by rw [decide_eq_true_iff]; omega), forF_rtM (fun x => !inB x) 3 xs fun x _ => by rw [out_in]]
      split <;> rfl
theorem pattern_wrong_eq (xs : List Int) : s_law_pattern_wrong xs = .ok (due 14 4 xs) := by
  unfold s_law_pattern_wrong due
  cases hx : xs.isEmpty with
  | true => rfl
  | false =>
    rw [if_neg (show ¬ (!(!false)) = true by decide), if_neg (show ¬ false = true by decide)]
    by_cases h : 14 < xs.length
    · rw [if_pos h, if_pos (show decide ((14 : Int) < (xs.length : Int)) = true by rw [decide_eq_true_iff]; omega)]
      rfl
    · rw [if_neg h, if_neg (show ¬ decide ((14 : Int) < (xs.length : Int)) = true by rw [decide_eq_true_iff]; omega), forF_rtM (fun x => !inB x) 3 xs fun x _ => by rw [out_in]]
      split <;> rfl
theorem ceil2 (a : Int) : s_ceil_div a 2 = .ok (-((-a) / 2)) := by
  unfold s_ceil_div
  rw [if_neg (by decide), divR_ok (by omega)]
  rfl
theorem rngC_nat {a b k : Nat} (h : a < b) (hk : 0 < k) (hb : b < 1000000) (hk2 : k < 1000000) : rngC (a : Int) (b : Int) (k : Int) = .ok ((List.range ((b - a - 1) / k + 1)).map fun (j : Nat) => (a : Int) + (j : Int) * k) := by
  unfold rngC inR rangeN
  have e : (((b : Int) - a - 1) / k + 1).toNat = (b - a - 1) / k + 1 := by
    rw [show ((b : Int) - a - 1) = ((b - a - 1 : Nat) : Int) by omega, ← Int.natCast_ediv]
    generalize (b - a - 1) / k = q
    omega
  rw [decide_eq_true (show -(2 ^ 62) ≤ (a : Int) by omega), decide_eq_true (show (a : Int) < 2 ^ 62 by omega), decide_eq_true (show -(2 ^ 62) ≤ (b : Int) by omega), decide_eq_true (show (b : Int) < 2 ^ 62 by omega), decide_eq_true (show 0 < (k : Int) ∧ (k : Int) < 1073741824 by omega), if_pos (show (a : Int) < b by omega), e]
  rfl
theorem ext_gv {uses : List Int} {f len : Nat} (hf : f < uses.length) (hfl : f < len) (hl : len < 1000) (hu : uses.length ≤ 1000) : Gv (s_extreme_days uses f len) fun p => ∃ h l : Nat, p = ((h : Int), (l : Int)) ∧ (h < uses.length ∧ h % len = f) ∧ (l < uses.length ∧ l % len = f) ∧ ∀ d, d < uses.length → d % len = f → gI uses d ≤ gI uses h ∧ gI uses l ≤ gI uses d := by
  unfold s_extreme_days
  refine grun (gfl_eq _ (rngC_nat hf (by omega) (by omega) (by omega)) ?_)
  refine gfb (S' := fun s => ∃ h l : Nat, s = ((h : Int), (l : Int)) ∧ (h < uses.length ∧ h % len = f) ∧ (l < uses.length ∧ l % len = f) ∧ ∀ j, j < (uses.length - f - 1) / len + 1 → gI uses (f + j * len) ≤ gI uses h ∧ gI uses l ≤ gI uses (f + j * len)) ?_ fun s hs => ?_
  · have key := gfor_at (xs := (List.range ((uses.length - f - 1) / len + 1)).map fun (j : Nat) => (f : Int) + (j : Int) * len) (s0 := ((f : Int), (f : Int))) (R := fun p : Int × Int => ∃ h l : Nat, p = ((h : Int), (l : Int)) ∧ (h < uses.length ∧ h % len = f) ∧ (l < uses.length ∧ l % len = f) ∧ ∀ d, d < uses.length → d % len = f → gI uses d ≤ gI uses h ∧ gI uses l ≤ gI uses d)
      (body := fun (day : Int) (s : Int × Int) => (((((ixR uses day)).bind fun y => ((ixR uses s.1)).bind fun y_1 => Res.ok (decide (y_1 < y)))).fl fun b_1 => if b_1 = true then Fl.nx day else Fl.nx s.1).bind fun (high : Int) =>
        (((((ixR uses day)).bind fun y_2 => ((ixR uses s.2)).bind fun y_3 => Res.ok (decide (y_2 < y_3)))).fl fun b => if b = true then Fl.nx day else Fl.nx s.2).bind fun (low : Int) => Fl.nx (high, low))
      (fun i s => ∃ h l : Nat, s = ((h : Int), (l : Int)) ∧ (h < uses.length ∧ h % len = f) ∧ (l < uses.length ∧ l % len = f) ∧ ∀ j, j < i → gI uses (f + j * len) ≤ gI uses h ∧ gI uses l ≤ gI uses (f + j * len)) ⟨f, f, rfl, ⟨hf, Nat.mod_eq_of_lt hfl⟩, ⟨hf, Nat.mod_eq_of_lt hfl⟩, fun j hj => by omega⟩ fun i x s hx ⟨h, l, e, hh, hl', hb⟩ => ?_
    · refine key.imp (fun s hs => ?_) fun r hr => hr
      rw [List.length_map, List.length_range] at hs
      exact hs
    · have hi : i < (uses.length - f - 1) / len + 1 := by
        have := (List.getElem?_eq_some_iff.mp hx).1
        rwa [List.length_map, List.length_range] at this
      rw [List.getElem?_map, List.getElem?_range hi] at hx
      have hx : (f : Int) + (i : Int) * len = x := Option.some.inj hx
      have hxn : ((f + i * len : Nat) : Int) = x := by rw [← hx, Int.natCast_add, Int.natCast_mul]
      have hd : i * len ≤ uses.length - f - 1 := (Nat.le_div_iff_mul_le (by omega)).mp (by omega)
      have hlt : f + i * len < uses.length := by omega
      have hm : (f + i * len) % len = f := by rw [Nat.add_mul_mod_self_right, Nat.mod_eq_of_lt hfl]
      subst hxn e
      refine gfb (S' := fun z => ∃ h' : Nat, z = (h' : Int) ∧ (h' < uses.length ∧ h' % len = f) ∧ gI uses h ≤ gI uses h' ∧ gI uses (f + i * len) ≤ gI uses h') ?_ fun z ⟨h', e, q1, q2, q3⟩ => ?_
      · refine gfl_eq _ (by rw [ixR_gI hlt, Res.bind_ok, ixR_gI hh.1]; rfl) (gif (fun hb => ?_) (fun hb => ?_))
        · have hb := of_decide_eq_true hb
          exact gnx ⟨_, rfl, ⟨hlt, hm⟩, by omega, Int.le_refl _⟩
        · have hb := of_decide_eq_false hb
          exact gnx ⟨_, rfl, hh, Int.le_refl _, by omega⟩
      · subst e
        refine gfb (S' := fun z => ∃ l' : Nat, z = (l' : Int) ∧ (l' < uses.length ∧ l' % len = f) ∧ gI uses l' ≤ gI uses l ∧ gI uses l' ≤ gI uses (f + i * len)) ?_ fun z ⟨l', e, t1, t2, t3⟩ => ?_
        · refine gfl_eq _ (by rw [ixR_gI hlt, Res.bind_ok, ixR_gI hl'.1]; rfl) (gif (fun hb => ?_) (fun hb => ?_))
          · have hb := of_decide_eq_true hb
            exact gnx ⟨_, rfl, ⟨hlt, hm⟩, by omega, Int.le_refl _⟩
          · have hb := of_decide_eq_false hb
            exact gnx ⟨_, rfl, hl', Int.le_refl _, by omega⟩
        · subst e
          refine gnx ⟨h', l', rfl, q1, t1, fun j hj => ?_⟩
          by_cases ej : j = i
          · subst ej; exact ⟨q3, t3⟩
          · have := hb j (by omega)
            omega
  · obtain ⟨h, l, e, hh, hl', hb⟩ := hs
    refine gret ⟨h, l, by rw [e], hh, hl', fun d hd hm => ?_⟩
    have e1 : f + d / len * len = d := by
      have := Nat.div_add_mod d len
      rw [Nat.mul_comm] at this
      omega
    have := hb (d / len) (by
      have : d / len ≤ (uses.length - f - 1) / len := (Nat.le_div_iff_mul_le (by omega)).mpr (by omega)
      omega)
    rwa [e1] at this
/-! ### a fitted pattern -/
structure FitOk (uses : List Int) (len i : Nat) (miss : Int) (days : Int × Int) (pat : List Int) : Prop where
  pl : pat.length = i
  pin : ∀ x ∈ pat, 0 ≤ x ∧ x ≤ 1000000
  bnd : ∀ d, d < uses.length → d % len < i → absI (gI uses d - gI pat (d % len)) ≤ miss
  days : ∃ x y : Nat, days = ((x : Int), (y : Int)) ∧ x < uses.length ∧ y < uses.length ∧ x % len = y % len ∧ (absI (gI uses x - gI uses y) + 1) / 2 = miss ∧ (miss = 0 ∨ (x % len < i ∧ gI uses x - gI pat (x % len) = miss))
theorem fit_gv {uses : List Int} {len : Nat} (h0 : 0 < uses.length) (h1 : uses.length ≤ 400) (h2 : ∀ x ∈ uses, 0 ≤ x ∧ x ≤ 1000000) (hl : 1 ≤ len) (hl2 : len ≤ 14) : Gv (s_fit_pattern uses len) fun t => FitOk uses len len t.a t.c t.b := by
  have hS := SLe
  have hin : ∀ d, d < uses.length → 0 ≤ gI uses d ∧ gI uses d ≤ 1000000 := fun d hd => h2 _ (gI_mem hd)
  have hck : s_check_fitted uses = .ok () := by
    rw [check_fitted_eq]
    unfold ck
    rw [if_neg (by cases uses with | nil => exact absurd h0 (Nat.lt_irrefl _) | cons _ _ => exact Bool.false_ne_true), if_neg (by omega), if_neg (by rw [any_in.mpr h2]; decide)]
  unfold s_fit_pattern
  refine grun (gfl_eq () hck (gif (fun hb => ?_) (fun _ => ?_)))
  · exfalso
    rw [decide_eq_true (show (1 : Int) ≤ len by omega), decide_eq_true (show (len : Int) ≤ 14 by omega)] at hb
    cases hb
  refine gok (gfl_eq _ (rngR_nat (by omega)) ?_)
  refine gfb (gfor_rng (fun i s => FitOk uses len i s.1 s.2.1 s.2.2) ⟨rfl, fun x h => (by cases h), fun d _ h => absurd h (Nat.not_lt_zero _), 0, 0, rfl, h0, h0, rfl, (by rw [Int.sub_self]; rfl), .inl rfl⟩ fun i s hi hf => ?_) fun s hs => gok (gret hs)
  refine gfb (S' := fun s => FitOk uses len (i + 1) s.1 s.2.1 s.2.2) (gif (fun hb => ?_) (fun hb => ?_)) fun s hs => gnx hs
  · have hb := of_decide_eq_true hb
    refine gfl (ext_gv (by omega) hi (by omega) (by omega)) fun p ⟨h, l, e, hh, hl', hx⟩ => ?_
    subst e
    have uh := hin h hh.1
    have ul := hin l hl'.1
    have hhl := hx h hh.1 hh.2
    have e1 : s_ceil_div (gI uses h - gI uses l) 2 = .ok (-((-(gI uses h - gI uses l)) / 2)) := ceil2 _
    refine gfl_eq ((gI uses h + gI uses l) / 2) (by rw [ixR_gI hh.1, Res.bind_ok, ixR_gI hl'.1]; rfl) ?_
    refine gfl (gapp (by rw [hf.pl]; omega)) fun pat e => ?_
    subst e
    have hpl := hf.pl
    have g1 : ∀ k, k < i → gI (s.2.2 ++ [(gI uses h + gI uses l) / 2]) k = gI s.2.2 k := fun k hk => gI_app1 (by omega)
    have g2 : gI (s.2.2 ++ [(gI uses h + gI uses l) / 2]) i = (gI uses h + gI uses l) / 2 := by rw [← hpl]; exact gI_app2
    have pl' : (s.2.2 ++ [(gI uses h + gI uses l) / 2]).length = i + 1 := by rw [List.length_append, hpl]; rfl
    have pin' : ∀ x ∈ s.2.2 ++ [(gI uses h + gI uses l) / 2], 0 ≤ x ∧ x ≤ 1000000 := fun x hx => by
      rcases List.mem_append.mp hx with hx | hx
      · exact hf.pin x hx
      · rw [List.mem_singleton.mp hx]; omega
    have bnew : ∀ d, d < uses.length → d % len = i → absI (gI uses d - (gI uses h + gI uses l) / 2) ≤ -((-(gI uses h - gI uses l)) / 2) := fun d hd hm => by
      have := hx d hd hm
      unfold absI
      split <;> omega
    have e2 : ((((ixR uses (h : Int)).bind fun y_13 => (ixR uses (l : Int)).bind fun y_14 => Res.ok (y_13 - y_14)).bind fun y_15 => s_ceil_div y_15 2) : Res Int) = .ok (-((-(gI uses h - gI uses l)) / 2)) := by
      rw [ixR_gI hh.1, Res.bind_ok, ixR_gI hl'.1, Res.bind_ok, Res.bind_ok, e1]
    obtain ⟨x, y, ed, x1, y1, xy, xm, xz⟩ := hf.days
    refine gfb (S' := fun z : Int × (Int × Int) => FitOk uses len (i + 1) z.1 z.2 (s.2.2 ++ [(gI uses h + gI uses l) / 2])) ?_ fun z hz => gnx hz
    refine gfl_eq _ (by rw [e2]; rfl) (gif (fun hc => ?_) (fun hc => ?_))
    · have hc := of_decide_eq_true hc
      refine gfl_eq _ e2 (gok (gnx ⟨pl', pin', fun d hd hm => ?_, h, l, rfl, hh.1, hl'.1, by rw [hh.2, hl'.2], ?_, .inr ⟨by rw [hh.2]; omega, ?_⟩⟩))
      · by_cases q : d % len < i
        · rw [g1 _ q]
          have := hf.bnd d hd q
          omega
        · have q : d % len = i := by omega
          rw [q, g2]
          exact bnew d hd q
      · unfold absI
        rw [if_neg (by omega)]
        omega
      · rw [hh.2, g2]
        omega
    · have hc := of_decide_eq_false hc
      refine gnx ⟨pl', pin', fun d hd hm => ?_, x, y, ed, x1, y1, xy, xm, ?_⟩
      · by_cases q : d % len < i
        · rw [g1 _ q]
          exact hf.bnd d hd q
        · have q : d % len = i := by omega
          rw [q, g2]
          have := bnew d hd q
          omega
      · rcases xz with xz | ⟨xz, xw⟩
        · exact .inl xz
        · exact .inr ⟨by omega, by rw [g1 _ xz]; exact xw⟩
  · have hb := of_decide_eq_false hb
    refine gfl (gapp (by rw [hf.pl]; omega)) fun pat e => gnx ?_
    subst e
    have hpl := hf.pl
    have g1 : ∀ k, k < i → gI (s.2.2 ++ [0]) k = gI s.2.2 k := fun k hk => gI_app1 (by omega)
    obtain ⟨x, y, ed, x1, y1, xy, xm, xz⟩ := hf.days
    refine ⟨by rw [List.length_append, hpl]; rfl, fun x hx => ?_, fun d hd hm => ?_, x, y, ed, x1, y1, xy, xm, ?_⟩
    · rcases List.mem_append.mp hx with hx | hx
      · exact hf.pin x hx
      · rw [List.mem_singleton.mp hx]; omega
    · have q : d % len < i := by
        have := Nat.mod_le d len
        omega
      rw [g1 _ q]
      exact hf.bnd d hd q
    · rcases xz with xz | ⟨xz, xw⟩
      · exact .inl xz
      · exact .inr ⟨by omega, by rw [g1 _ xz]; exact xw⟩
/-! ### the miss -/
def diffs (uses pat : List Int) : List Int := (daysFrom 0 uses.length).map fun d => absI (gI uses d.toNat - gI pat (d.toNat % pat.length))
theorem miss_eq {uses pat : List Int} (h1 : uses.length ≤ 1000) (hp : 0 < pat.length) (hp2 : pat.length ≤ 1000) : s_law_miss uses pat = maxR (diffs uses pat) := by
  have hS := SLe
  unfold s_law_miss
  rw [rngR_nat (by omega), Res.bind_ok, compM_ok (fun d => absI (gI uses d.toNat - gI pat (d.toNat % pat.length))) (by rw [daysFrom_len]; omega) fun d hd => ?_, Res.bind_ok]
  · unfold diffs
    cases maxR _ <;> rfl
  · obtain ⟨a, b⟩ := daysFrom_mem hd
    obtain ⟨j, rfl⟩ : ∃ j : Nat, d = j := ⟨d.toNat, by omega⟩
    have hm := Nat.mod_lt j hp
    rw [ixR_gI (by omega), Res.bind_ok, modR_ok (by omega), Res.bind_ok, ← Int.natCast_emod, ixR_gI hm]
    rfl
theorem lenD_ints {xs : List Int} : lenD (toD xs) = .ok (xs.length : Int) := by
  unfold lenD
  show (match len (.lst (xs.map D.int)) with | .ok (.int n) => Res.ok n | _ => .bad) = _
  simp only [len, List.length_map]
theorem ixD_gI {xs : List Int} {i : Nat} (h : i < xs.length) : (ixD (toD xs) (i : Int)).bind unI = .ok (gI xs i) := by
  rw [ixD_ints (by omega) (by omega), Int.toNat_natCast]
  rfl
theorem miss2_eq {uses pat : List Int} (h1 : uses.length ≤ 1000) (hp : 0 < pat.length) (hp2 : pat.length ≤ 1000) : s_law_miss_2 uses (toD pat) = maxR (diffs uses pat) := by
  have hS := SLe
  unfold s_law_miss_2
  rw [rngR_nat (by omega), Res.bind_ok, compM_ok (fun d => absI (gI uses d.toNat - gI pat (d.toNat % pat.length))) (by rw [daysFrom_len]; omega) fun d hd => ?_, Res.bind_ok]
  · unfold diffs
    cases maxR _ <;> rfl
  · obtain ⟨a, b⟩ := daysFrom_mem hd
    obtain ⟨j, rfl⟩ : ∃ j : Nat, d = j := ⟨d.toNat, by omega⟩
    have hm := Nat.mod_lt j hp
    rw [ixR_gI (by omega), Res.bind_ok, lenD_ints, Res.bind_ok, modR_ok (by omega), Res.bind_ok, ← Int.natCast_emod, ixD_gI hm]
    rfl
theorem miss_gv {uses pat : List Int} (h0 : 0 < uses.length) : Gv (maxR (diffs uses pat)) fun v => (∃ d, d < uses.length ∧ v = absI (gI uses d - gI pat (d % pat.length))) ∧ ∀ d, d < uses.length → absI (gI uses d - gI pat (d % pat.length)) ≤ v := by
  refine (maxR_gv (xs := diffs uses pat) fun z => ?_).imp fun v ⟨h1, h2⟩ => ⟨?_, fun d hd => h2 _ ?_⟩
  · have : (diffs uses pat).length = 0 := by rw [z]; rfl
    unfold diffs at this
    rw [List.length_map, daysFrom_len] at this
    omega
  · unfold diffs at h1
    obtain ⟨d, hd, e⟩ := List.mem_map.mp h1
    obtain ⟨a, b⟩ := daysFrom_mem hd
    exact ⟨d.toNat, by omega, e.symm⟩
  · unfold diffs
    exact List.mem_map.mpr ⟨(d : Int), List.mem_of_getElem? (i := d) (by rw [daysFrom_get 0 _ d hd]; exact congrArg some (by omega)), by rw [Int.toNat_natCast]⟩
theorem absI_nn (a : Int) : 0 ≤ absI a := by
  unfold absI
  split <;> omega
theorem fit_miss {uses pat : List Int} {len : Nat} {miss : Int} {days : Int × Int} (h0 : 0 < uses.length) (hl : 0 < len) (h : FitOk uses len len miss days pat) : maxR (diffs uses pat) = .ok miss := by
  obtain ⟨v, e, ⟨d, hd, ev⟩, hv⟩ := miss_gv (pat := pat) h0
  rw [e]
  have b := h.bnd d hd (Nat.mod_lt _ hl)
  obtain ⟨x, y, _, x1, y1, _, _, xz⟩ := h.days
  rw [h.pl] at ev hv
  rcases xz with xz | ⟨_, xw⟩
  · have := absI_nn (gI uses d - gI pat (d % len))
    rw [show v = miss by omega]
  · have q := hv x x1
    have : miss ≤ absI (gI uses x - gI pat (x % len)) := by
      rw [xw]
      unfold absI
      split <;> omega
    rw [show v = miss by omega]
/-- no pattern of this length misses less -/
theorem fit_least {uses pat other : List Int} {len : Nat} {miss v : Int} {days : Int × Int} (h0 : 0 < uses.length) (h : FitOk uses len len miss days pat) (ho : other.length = len) (hv : maxR (diffs uses other) = .ok v) : miss ≤ v := by
  obtain ⟨v', e, _, hb⟩ := miss_gv (pat := other) h0
  rw [hv] at e
  obtain rfl := Res.ok.inj e
  obtain ⟨x, y, _, x1, y1, xy, xm, _⟩ := h.days
  have a := hb x x1
  have b := hb y y1
  rw [ho, xy] at a
  rw [ho] at b
  unfold absI at a b xm
  split at a <;> split at b <;> split at xm <;> omega
/-! ### what is told, what is judged -/
theorem eqD_i (x y : Int) : eqR (toD x) y = .ok (decide (x = y)) := eqR_of (α := PL.D) (β := Int) (γ := Int) (by decide +kernel) (x := toD x) (y := y) x y rfl rfl
theorem eqI_D (x y : Int) : eqR x (toD y) = .ok (decide (x = y)) := eqR_of (α := Int) (β := PL.D) (γ := Int) (by decide +kernel) (x := x) (y := toD y) x y rfl rfl
theorem limit_eq (x : Int) : s_law_limit (toD x) = .ok (if x = 400 then 2 else if x = 14 then 4 else 6) := by
  unfold s_law_limit
  rw [eqD_i, Res.fl_ok]
  by_cases h : x = 400
  · rw [decide_eq_true h, if_pos rfl, if_pos h]
    rfl
  · rw [decide_eq_false h, if_neg (by decide), if_neg h, eqD_i, Res.bind_ok]
    by_cases h2 : x = 14
    · rw [decide_eq_true h2, if_pos h2]
      show ((ixR ([(6 : Int), 4]) ((1 : Nat) : Int)).fl Fl.ret : Fl Int Unit).run = _
      rw [ixR_ok (x := 4) (by decide) rfl]
      rfl
    · rw [decide_eq_false h2, if_neg h2]
      show ((ixR ([(6 : Int), 4]) ((0 : Nat) : Int)).fl Fl.ret : Fl Int Unit).run = _
      rw [ixR_ok (x := 6) (by decide) rfl]
      rfl
theorem xf0 (d : PL.D) : xfR [d] 0 = .ok d := by unfold xfR; rfl
theorem tryF_errR {ρ σ : Type} {n : Nat} {fs : List PL.D} {h : Nat → List PL.D → Fl ρ σ} {r : ρ} (e : h n fs = .ret r) : tryF (.err n fs) h = .ret r := by
  unfold tryF
  simp only
  rw [e]
theorem ex23 : exm 2 3 = false := by decide +kernel
theorem ex22 : exm 2 2 = true := by decide +kernel
section
variable {uses pat : List Int} {len : Int}
theorem missed_err1 {fs : List PL.D} (h : s_pattern_miss uses pat = .err 1 fs) : s_law_missed uses pat = .ok (3, 0) := by
  unfold s_law_missed
  rw [h]
  rfl
theorem missed_err3 {fs : List PL.D} (h : s_pattern_miss uses pat = .err 3 fs) : s_law_missed uses pat = .ok (1, 0) := by
  unfold s_law_missed
  rw [h]
  rfl
theorem missed_err2 {x : Int} (h : s_pattern_miss uses pat = .err 2 [toD x]) : s_law_missed uses pat = .ok (if x = 400 then 2 else if x = 14 then 4 else 6, 0) := by
  unfold s_law_missed
  rw [h]
  rw [Res.bind_err, Res.fl_err, tryF_errR (r := ((if x = 400 then 2 else if x = 14 then 4 else 6 : Int), (0 : Int))) (by simp only [ex23, ex22, xf0, Res.bind_ok, limit_eq]; rfl)]
  rfl
theorem missed_ok {v : Int} (h : s_pattern_miss uses pat = .ok v) : s_law_missed uses pat = .ok (0, v) := by
  unfold s_law_missed
  rw [h]
  rfl
theorem fit_err1 {fs : List PL.D} (h : s_fit_pattern uses len = .err 1 fs) : s_law_fit uses len = .ok (3, Sum.inl 0) := by
  unfold s_law_fit
  rw [h]
  rfl
theorem fit_err3 {fs : List PL.D} (h : s_fit_pattern uses len = .err 3 fs) : s_law_fit uses len = .ok (1, Sum.inl 0) := by
  unfold s_law_fit
  rw [h]
  rfl
theorem fit_err2 {x : Int} (h : s_fit_pattern uses len = .err 2 [toD x]) : s_law_fit uses len = .ok (if x = 400 then 2 else if x = 14 then 4 else 6, Sum.inl 0) := by
  unfold s_law_fit
  rw [h]
  rw [Res.bind_err, Res.bind_err, Res.fl_err, tryF_errR (r := ((if x = 400 then 2 else if x = 14 then 4 else 6 : Int), (Sum.inl 0 : Sum Int (T3 Int (List Int) (Int × Int))))) (by simp only [ex23, ex22, xf0, Res.bind_ok, limit_eq]; rfl)]
  rfl
theorem fit_ok {t : T3 Int (List Int) (Int × Int)} (h : s_fit_pattern uses len = .ok t) : s_law_fit uses len = .ok (0, Sum.inr t) := by
  unfold s_law_fit
  rw [h]
  rfl
end
theorem pm_err1 {uses pat : List Int} {n : Nat} {fs : List PL.D} (h : s_check_fitted uses = .err n fs) : s_pattern_miss uses pat = .err n fs := by
  unfold s_pattern_miss
  rw [h]
  rfl
theorem pm_err2 {uses pat : List Int} {n : Nat} {fs : List PL.D} (h0 : s_check_fitted uses = .ok ()) (h : s_check_pattern pat = .err n fs) : s_pattern_miss uses pat = .err n fs := by
  unfold s_pattern_miss
  rw [h0, h]
  rfl
theorem pm_ok {uses pat : List Int} (h0 : s_check_fitted uses = .ok ()) (h : s_check_pattern pat = .ok ()) : s_pattern_miss uses pat = s_law_miss uses pat := by
  unfold s_pattern_miss s_law_miss
  rw [h0, h, Res.fl_ok, Res.fl_ok]
theorem fp_err1 {uses : List Int} {len : Int} {n : Nat} {fs : List PL.D} (h : s_check_fitted uses = .err n fs) : s_fit_pattern uses len = .err n fs := by
  unfold s_fit_pattern
  rw [h]
  rfl
theorem fp_err2 {uses : List Int} {len : Int} (h0 : s_check_fitted uses = .ok ()) (h : ¬ (1 ≤ len ∧ len ≤ 14)) : ∃ fs, s_fit_pattern uses len = .err 1 fs := by
  refine ⟨[toD ("length of the pattern" : Str)], ?_⟩
  unfold s_fit_pattern
  rw [h0, Res.fl_ok, if_pos (show (!(decide (1 ≤ len) && decide (len ≤ 14))) = true by
    by_cases a : 1 ≤ len
    · rw [decide_eq_true a, decide_eq_false (show ¬ len ≤ 14 by omega)]; rfl
    · rw [decide_eq_false a]; rfl)]
  rfl
theorem whole2 (x : Int) : s_law_is_whole_2 (toD x) = .ok true := by
  unfold s_law_is_whole_2
  have e1 : isTy (toD x) .int = .ok true := rfl
  have e2 : isTy (toD x) .bool = .ok false := rfl
  rw [e1, e2]
  rfl
theorem whole1 (x : Int) : s_law_is_whole x = .ok true := by
  unfold s_law_is_whole
  rfl
theorem walkD_ints (xs : List Int) : walkD (toD xs) = .ok (xs.map PL.D.int) := by unfold walkD; rfl
theorem unI_int (x : Int) : unI (toD x) = .ok x := by unfold unI; rfl
theorem fits_ok {uses : List Int} {len : Nat} {t : T3 Int (List Int) (Int × Int)} (h0 : 0 < uses.length) (h1 : uses.length ≤ 1000) (hl : 0 < len) (hl2 : len ≤ 1000) (h : FitOk uses len len t.a t.c t.b) : s_law_fits (toD t) uses len = .ok true := by
  have hS := SLe
  obtain ⟨x, y, ed, x1, y1, xy, xm, xz⟩ := id h.days
  have hmiss := fit_miss h0 hl h
  obtain ⟨miss, pat, days⟩ := t
  dsimp only at h ed xm xz hmiss
  subst ed
  have hpl := h.pl
  refine Gv.eq ?_
  unfold s_law_fits
  have e1 : isTy (toD (T3.mk miss pat ((x : Int), (y : Int)))) .tup = .ok true := rfl
  have e2 : lenD (toD (T3.mk miss pat ((x : Int), (y : Int)))) = .ok 3 := by unfold lenD; rfl
  have e3 : ixD (toD (T3.mk miss pat ((x : Int), (y : Int)))) 0 = .ok (toD miss) := by unfold ixD; rfl
  have e4 : ixD (toD (T3.mk miss pat ((x : Int), (y : Int)))) 1 = .ok (toD pat) := by unfold ixD; rfl
  have e5 : ixD (toD (T3.mk miss pat ((x : Int), (y : Int)))) 2 = .ok (toD ((x : Int), (y : Int))) := by unfold ixD; rfl
  have e6 : isTy (toD pat) .lst = .ok true := rfl
  have e7 : isTy (toD ((x : Int), (y : Int))) .tup = .ok true := rfl
  have e8 : lenD (toD ((x : Int), (y : Int))) = .ok 2 := by unfold lenD; rfl
  have e9 : ixD (toD ((x : Int), (y : Int))) 0 = .ok (toD (x : Int)) := by unfold ixD; rfl
  have e10 : ixD (toD ((x : Int), (y : Int))) 1 = .ok (toD (y : Int)) := by unfold ixD; rfl
  refine grun (gfl_eq false (by simp only [e1, e2, e3, Res.bind_ok, whole2]; rfl) ?_)
  rw [if_neg (by decide), e4, Res.fl_ok]
  refine gfl_eq false (by rw [e6, Res.bind_ok, Res.bind_ok, lenD_ints, Res.bind_ok, decide_eq_false (show ¬ ((pat.length : Int) ≠ len) by omega)]; rfl) ?_
  rw [if_neg (by decide), walkD_ints, Res.fl_ok]
  refine gfb (gfor (fun _ => True) trivial fun z _ hz _ => ?_) fun _ _ => ?_
  · obtain ⟨v, hv, rfl⟩ := List.mem_map.mp hz
    have := h.pin v hv
    refine gfl_eq false ?_ (gnx trivial)
    rw [show s_law_is_whole_2 (.int v) = .ok true from whole2 v, show unI (.int v) = .ok v from unI_int v]
    show (Res.ok (!(decide (0 ≤ v) && decide (v ≤ 1000000))) : Res Bool) = _
    rw [decide_eq_true this.1, decide_eq_true this.2]
    rfl
  rw [e5, Res.fl_ok]
  refine gfl_eq false (by simp only [e7, e8, e9, e10, Res.bind_ok, whole2]; rfl) ?_
  rw [if_neg (by decide), e9, Res.fl_ok, e10, Res.fl_ok]
  refine gfl_eq false ?_ ?_
  · simp only [unI_int, Res.bind_ok]
    rw [modR_ok (by omega)]
    rw [decide_eq_true (show (0 : Int) ≤ x by omega), decide_eq_true (show (x : Int) < uses.length by omega), decide_eq_true (show (0 : Int) ≤ y by omega), decide_eq_true (show (y : Int) < uses.length by omega)]
    have : ((x : Int) - y) % (len : Int) = 0 := by
      have a := Nat.div_add_mod x len
      have b := Nat.div_add_mod y len
      have : (x : Int) - y = (len : Int) * ((x / len : Nat) - (y / len : Nat) : Int) := by
        rw [Int.mul_sub, ← Int.natCast_mul, ← Int.natCast_mul]
        omega
      rw [this]
      exact Int.mul_emod_right ..
    simp only [Res.bind_ok, this]
    rfl
  rw [if_neg (by decide), miss2_eq h1 (by omega) (by omega), hmiss, e3, Res.bind_ok, Res.bind_ok, eqI_D, decide_eq_true rfl]
  refine gfret ⟨_, ?_, rfl⟩
  simp only [unI_int, Res.bind_ok, ixR_gI x1, ixR_gI y1, xm, eqI_D]
  rfl
/-! ### the refusals -/
theorem ck_ok {n : Nat} {m1 m2 : Str} {xs : List Int} (h0 : 0 < xs.length) (h1 : xs.length ≤ n) (h2 : ∀ x ∈ xs, 0 ≤ x ∧ x ≤ 1000000) : ck n m1 m2 xs = .ok () := by
  unfold ck
  rw [if_neg (by cases xs with | nil => exact absurd h0 (Nat.lt_irrefl _) | cons _ _ => exact Bool.false_ne_true), if_neg (by omega), if_neg (by rw [any_in.mpr h2]; decide)]
theorem missed_ok' {uses pat : List Int} (u0 : 0 < uses.length) (u1 : uses.length ≤ 400) (u2 : ∀ x ∈ uses, 0 ≤ x ∧ x ≤ 1000000) (p0 : 0 < pat.length) (p1 : pat.length ≤ 14) (p2 : ∀ x ∈ pat, 0 ≤ x ∧ x ≤ 1000000) :
    ∃ v, s_law_missed uses pat = .ok (0, v) ∧ s_law_miss uses pat = .ok v ∧ maxR (diffs uses pat) = .ok v := by
  obtain ⟨v, e, _, _⟩ := miss_gv (pat := pat) u0
  have e2 : s_law_miss uses pat = .ok v := by rw [miss_eq (by omega) p0 (by omega), e]
  refine ⟨v, missed_ok ?_, e2, e⟩
  rw [pm_ok (by rw [check_fitted_eq, ck_ok u0 u1 u2]) (by rw [check_pattern_eq, ck_ok p0 p1 p2]), e2]
theorem changed_gv {row : List Int} (hr : row.length = 12) {at_ : Int} (ha : at_ = 0 ∨ at_ = 4) {numbers : List Int} {many : Int} (n0 : 0 < numbers.length) (n1 : numbers.length ≤ 400) (hm : 0 ≤ many) (hm2 : many ≤ 1000) : Gv (s_law_changed row at_ numbers many) fun xs => xs.length ≤ 2000 := by
  have hS := SLe
  have i0 : ∀ j : Int, 0 ≤ j → j ≤ 3 → Gv (ixR row (at_ + j)) fun _ => True := fun j a b => (gix (by omega) (by omega)).imp fun _ _ => trivial
  have i1 : Gv (ixR row at_) fun _ => True := (gix (by omega) (by omega)).imp fun _ _ => trivial
  unfold s_law_changed
  refine grun (gfl (P := fun x => 0 ≤ x ∧ x < (numbers.length : Int)) (gb i1 fun y _ => ⟨_, modR_ok (by omega), Int.emod_nonneg _ (by omega), Int.emod_lt_of_pos _ (by omega)⟩) fun place hp => ?_)
  refine gfl (P := fun _ => True) ?_ fun bad _ => ?_
  · refine gb (P := fun xs : List Int => xs.length = 4) (gb (P := fun _ => True) (gb (i0 1 (by omega) (by omega)) fun _ _ => gv_ok trivial) fun a _ => gb (P := fun _ => True) (gb (i0 1 (by omega) (by omega)) fun _ _ => gv_ok trivial) fun b _ => gv_ok rfl) fun xs hx => ?_
    refine gb (P := fun z => 0 ≤ z ∧ z < 4) (gb (i0 2 (by omega) (by omega)) fun y _ => gv_ok (by omega)) fun z hz => (gix (by omega) (by omega)).imp fun _ _ => trivial
  refine gfl (P := fun xs => xs.length ≤ 1000 ∧ 0 < xs.length) ?_ fun spoilt hs => ?_
  · have a := cutL_len numbers none (some place)
    have b := cutL_len numbers (some (place + 1)) none
    refine gb (gappL (by show _ + 1 ≤ _; omega)) fun y e => ?_
    subst e
    refine (gappL (by rw [List.length_append]; show _ + 1 + _ ≤ _; omega)).imp fun z e => ?_
    subst e
    rw [List.length_append, List.length_append]
    exact ⟨by show _ + 1 + _ ≤ _; omega, by show 0 < _ + 1 + _; omega⟩
  refine gfl (P := fun _ => True) (gb (i0 3 (by omega) (by omega)) fun y _ => gv_ok trivial) fun pick _ => ?_
  have rep : ∀ xs : List Int, xs.length ≤ 1000 → Gv ((((divR many (numbers.length : Int)).bind fun y_15 => Res.ok (y_15 + 1)).bind fun y_16 => repL xs y_16).bind fun y_17 => Res.ok (cutL y_17 none (some many))) fun zs => zs.length ≤ 2000 := fun xs hx => by
    have d1 : 0 ≤ many / (numbers.length : Int) := Int.ediv_nonneg hm (by omega)
    have d2 : many / (numbers.length : Int) ≤ many := Int.ediv_le_self _ hm
    refine gb (P := fun ys : List Int => True) (gb (P := fun z : Int => 0 ≤ z ∧ z ≤ 1001) (gb_eq _ (divR_ok (by omega)) (gv_ok (by omega))) fun z hz => ?_) fun ys _ => gv_ok ?_
    · have hmul : xs.length * z.toNat ≤ 1000 * 1001 := Nat.mul_le_mul hx (by omega)
      exact ⟨_, by unfold repL; rw [if_pos ⟨by omega, by omega, by omega⟩], trivial⟩
    unfold cutL cutIx
    dsimp only
    rw [if_neg (by omega)]
    rw [List.length_take]
    omega
  refine gif (fun _ => gret (by show (0 : Nat) ≤ _; omega)) fun _ => gif (fun _ => gfret (rep _ (by omega))) fun _ => gif (fun _ => gfret (rep _ hs.1)) fun _ => gif (fun _ => gret (by omega)) fun _ => gret (by omega)
theorem missed_due (a b : List Int) (ha : a.length ≤ 2000) (hb : b.length ≤ 2000) : ∃ m : Int × Int, s_law_missed a b = .ok m ∧ (due 400 2 a = 0 → m.1 = due 14 4 b) ∧ (due 400 2 a ≠ 0 → m = (due 400 2 a, 0)) := by
  rcases ck_cases 400 2 "no use" "use" a with ⟨d, c⟩ | ⟨d, c⟩ | ⟨d, c⟩ | ⟨d, c, l0, l1, l2⟩
  · exact ⟨_, missed_err3 (pm_err1 ((check_fitted_eq a).trans c)), fun z => by omega, fun _ => by rw [d]⟩
  · exact ⟨_, missed_err2 (pm_err1 ((check_fitted_eq a).trans c)), fun z => by omega, fun _ => by rw [d]; rfl⟩
  · exact ⟨_, missed_err1 (pm_err1 ((check_fitted_eq a).trans c)), fun z => by omega, fun _ => by rw [d]⟩
  · have c0 := (check_fitted_eq a).trans c
    rcases ck_cases 14 4 "no number in the pattern" "number of a pattern" b with ⟨e, f⟩ | ⟨e, f⟩ | ⟨e, f⟩ | ⟨e, f, m0, m1, m2⟩
    · exact ⟨_, missed_err3 (pm_err2 c0 ((check_pattern_eq b).trans f)), fun _ => e.symm, fun z => absurd d z⟩
    · exact ⟨_, missed_err2 (pm_err2 c0 ((check_pattern_eq b).trans f)), fun _ => e.symm, fun z => absurd d z⟩
    · exact ⟨_, missed_err1 (pm_err2 c0 ((check_pattern_eq b).trans f)), fun _ => e.symm, fun z => absurd d z⟩
    · obtain ⟨v, h1, _, _⟩ := missed_ok' l0 l1 l2 m0 m1 m2
      exact ⟨_, h1, fun _ => e.symm, fun z => absurd d z⟩
theorem fit_due (a : List Int) (ln : Int) : ∃ f : Int × Sum Int (T3 Int (List Int) (Int × Int)), s_law_fit a ln = .ok f ∧ (due 400 2 a ≠ 0 → f = (due 400 2 a, Sum.inl 0)) ∧
    (due 400 2 a = 0 → ¬ (1 ≤ ln ∧ ln ≤ 14) → f = (3, Sum.inl 0)) ∧ (due 400 2 a = 0 → 1 ≤ ln ∧ ln ≤ 14 → 0 < a.length ∧ a.length ≤ 400 ∧ ∃ t, f = (0, Sum.inr t) ∧ FitOk a ln.toNat ln.toNat t.a t.c t.b) := by
  rcases ck_cases 400 2 "no use" "use" a with ⟨d, c⟩ | ⟨d, c⟩ | ⟨d, c⟩ | ⟨d, c, l0, l1, l2⟩
  · exact ⟨_, fit_err3 (fp_err1 ((check_fitted_eq a).trans c)), fun _ => by rw [d], fun z => by omega, fun z => by omega⟩
  · exact ⟨_, fit_err2 (fp_err1 ((check_fitted_eq a).trans c)), fun _ => by rw [d]; rfl, fun z => by omega, fun z => by omega⟩
  · exact ⟨_, fit_err1 (fp_err1 ((check_fitted_eq a).trans c)), fun _ => by rw [d], fun z => by omega, fun z => by omega⟩
  · have c0 := (check_fitted_eq a).trans c
    by_cases hl : 1 ≤ ln ∧ ln ≤ 14
    · obtain ⟨n, rfl⟩ : ∃ n : Nat, ln = n := ⟨ln.toNat, by omega⟩
      obtain ⟨t, ht, hf⟩ := fit_gv l0 l1 l2 (len := n) (by omega) (by omega)
      exact ⟨_, fit_ok ht, fun z => absurd d z, fun _ z => absurd hl z, fun _ _ => ⟨l0, l1, t, rfl, by rw [Int.toNat_natCast]; exact hf⟩⟩
    · obtain ⟨fs, hfs⟩ := fp_err2 (len := ln) c0 hl
      exact ⟨_, fit_err1 hfs, fun z => absurd d z, fun _ _ => rfl, fun _ z => absurd z hl⟩
theorem eqR_fit (c : Int) : eqR ((c, Sum.inl 0) : Int × Sum Int (T3 Int (List Int) (Int × Int))) (c, (0 : Int)) = .ok true := eqR_self (γ := Int × Int) (by decide +kernel) (c, 0) rfl rfl
theorem refusals_gv {row : List Int} (hr : row.length = 12) {uses pat : List Int} (u0 : 0 < uses.length) (u1 : uses.length ≤ 400) (p0 : 0 < pat.length) (p1 : pat.length ≤ 14) (ln : Int) : s_law_refusals row 0 uses pat ln = .ok true := by
  have hS := SLe
  refine Gv.eq ?_
  have i0 : ∀ j : Int, 0 ≤ j → j ≤ 11 → Gv (ixR row j) fun _ => True := fun j a b => (gix (by omega) (by omega)).imp fun _ _ => trivial
  unfold s_law_refusals
  refine grun (gfl (changed_gv hr (.inl rfl) u0 u1 (by omega) (by omega)) fun others ho => ?_)
  refine gfl (changed_gv hr (.inr (by omega)) p0 (by omega) (by omega) (by omega)) fun another hn => ?_
  refine gfb (S' := fun _ : Int => True) (gfl (P := fun _ => True) (gb (P := fun _ => True) (gb (i0 _ (by omega) (by omega)) fun _ _ => gv_ok trivial) fun _ _ => gv_ok trivial) fun b _ => gif (fun _ => ?_) fun _ => gnx trivial) fun len2 _ => ?_
  · refine gfl (P := fun _ => True) ?_ fun _ _ => gnx trivial
    refine gb (P := fun xs : List Int => xs.length = 4) (gb (P := fun _ => True) (gb (i0 _ (by omega) (by omega)) fun _ _ => gv_ok trivial) fun a _ => gb (P := fun _ => True) (gb (i0 _ (by omega) (by omega)) fun _ _ => gv_ok trivial) fun b _ => gv_ok rfl) fun xs hx => ?_
    refine gb (P := fun z : Int => 0 ≤ z ∧ z < 4) (gb (P := fun _ => True) (gb (i0 _ (by omega) (by omega)) fun _ _ => gv_ok trivial) fun y _ => gv_ok (by omega)) fun z hz => (gix (by omega) (by omega)).imp fun _ _ => trivial
  refine gok (gfl_eq _ (uses_wrong_eq others) ?_)
  obtain ⟨m, em, m1, m2⟩ := missed_due others another ho hn
  obtain ⟨f, ef, f1, f2, f3⟩ := fit_due others len2
  rw [em, Res.fl_ok, ef, Res.fl_ok, if_neg (by rw [decide_eq_true_iff]; exact fun z => z rfl)]
  by_cases d : due 400 2 others = 0
  · by_cases hl : 1 ≤ len2 ∧ len2 ≤ 14
    · obtain ⟨a0, a1, t, e, hf⟩ := f3 d hl
      obtain ⟨n, rfl⟩ : ∃ n : Nat, len2 = n := ⟨len2.toNat, by omega⟩
      rw [Int.toNat_natCast] at hf
      rw [if_neg (show ¬ (decide (due 400 2 others = 0) && !(decide (1 ≤ (n : Int)) && decide ((n : Int) ≤ 14))) = true by rw [decide_eq_true d, decide_eq_true hl.1, decide_eq_true hl.2]; decide), if_pos (decide_eq_true d)]
      subst e
      refine gfret ⟨_, ?_, rfl⟩
      rw [if_pos (by rfl)]
      show (s_law_fits (toD t) others n).bind _ = _
      rw [fits_ok a0 (by omega) (by omega) (by omega) hf, Res.bind_ok, if_pos rfl, pattern_wrong_eq, Res.bind_ok, decide_eq_true (m1 d)]
    · rw [if_pos (show (decide (due 400 2 others = 0) && !(decide (1 ≤ len2) && decide (len2 ≤ 14))) = true by
        rw [decide_eq_true d]
        by_cases a : 1 ≤ len2
        · rw [decide_eq_true a, decide_eq_false (show ¬ len2 ≤ 14 by omega)]; rfl
        · rw [decide_eq_false a]; rfl), f2 d hl, eqR_fit, Res.bind_ok, if_pos rfl, pattern_wrong_eq, Res.bind_ok, decide_eq_true (m1 d)]
      exact gret rfl
  · rw [if_neg (show ¬ (decide (due 400 2 others = 0) && !(decide (1 ≤ len2) && decide (len2 ≤ 14))) = true by rw [decide_eq_false d, Bool.false_and]; exact Bool.false_ne_true), if_neg (by rw [decide_eq_false d]; exact Bool.false_ne_true), f1 d, eqR_fit, Res.bind_ok, if_pos rfl, m2 d, decide_eq_true rfl]
    exact gret rfl
/-! ### the law -/
theorem use_gv {cell scale : Int} (h : 0 ≤ cell) (hs : 0 < scale) (hs2 : scale ≤ 1000001) : Gv (s_law_use cell scale) fun x => 0 ≤ x ∧ x ≤ 1000000 := by
  unfold s_law_use
  refine grun (gif (fun _ => gret (by omega)) fun _ => gif (fun _ => gret (by omega)) fun _ => gfret ?_)
  have a := Int.emod_nonneg (cell / 8) (show scale ≠ 0 by omega)
  have b := Int.emod_lt_of_pos (cell / 8) hs
  exact ⟨_, modR_ok hs, by omega, by omega⟩
theorem uses_gv {row : List Int} (hr : row.length = 50) (hp : ∀ x ∈ row, 0 ≤ x) {many len : Nat} {scale : Int} (hm : many ≤ 400) (hl : 1 ≤ len) (hs : 0 < scale) (hs2 : scale ≤ 1000001) : Gv (s_law_uses row 3 many len scale) fun us => us.length = many ∧ ∀ x ∈ us, 0 ≤ x ∧ x ≤ 1000000 := by
  have hS := SLe
  have ri : ∀ j : Int, 0 ≤ j → j < 50 → Gv (ixR row j) fun x => 0 ≤ x := fun j a b => (gix a (by omega)).imp fun x hx => hp x (List.mem_of_getElem? hx)
  unfold s_law_uses
  refine grun (gfl_eq _ (rngR_nat (by omega)) ?_)
  refine gfb (gfor_rng (fun i us => us.length = i ∧ ∀ x ∈ us, 0 ≤ x ∧ x ≤ 1000000) ⟨rfl, fun x h => (by cases h)⟩ fun i us hi ⟨h1, h2⟩ => ?_) fun us h => gret h
  refine gfl (P := fun c => 0 ≤ c) ?_ fun cell hc => ?_
  · refine gb (ri _ (by omega) (by omega)) fun y hy => gb (P := fun z => 0 ≤ z) (gb (P := fun z : Int => 0 ≤ z) (gb (ri _ (by omega) (by omega)) fun z hz => gv_ok (by omega)) fun z hz => ?_) fun z hz => gv_ok (by omega)
    exact ⟨_, mulR_l (by omega) (by omega), Int.mul_nonneg (by omega) hz⟩
  refine gfl (use_gv hc hs hs2) fun use hu => ?_
  refine gfb (S' := fun x => 0 ≤ x ∧ x ≤ 1000000) (gif (fun hb => ?_) fun _ => gnx hu) fun use2 hu2 => ?_
  · have hb := (Bool.and_eq_true_iff.mp hb).2
    have hb := of_decide_eq_true hb
    refine gfl (P := fun x => 0 ≤ x ∧ x ≤ 1000000) (gb (P := fun z : Int => 0 ≤ z) (gb (gix (by omega) (by omega)) fun y hy => gv_ok ?_) fun z hz => gv_ok (by omega)) fun z hz => gnx hz
    have := h2 y (List.mem_of_getElem? hy)
    omega
  refine gfl (gapp (by omega)) fun us2 e => gnx ?_
  subst e
  refine ⟨by rw [List.length_append, h1]; rfl, fun x hx => ?_⟩
  rcases List.mem_append.mp hx with hx | hx
  · exact h2 x hx
  · rw [List.mem_singleton.mp hx]; exact hu2
theorem main_gv (script : List Int) : s_law script = .ok true := by
  have hS := SLe
  refine Gv.eq ?_
  unfold s_law
  refine grun (gfl (gb (P := fun _ => True) ⟨_, cell_eq script 0 (by omega), trivial⟩ fun c _ => row_gv c 50 (by omega)) fun row hrow => ?_)
  refine gfl (gb (P := fun _ => True) ⟨_, cell_eq script 1 (by omega), trivial⟩ fun c _ => row_gv c 12 (by omega)) fun more hmore => ?_
  obtain ⟨hr, hp⟩ := hrow
  have ri : ∀ j : Int, 0 ≤ j → j < 50 → Gv (ixR row j) fun x => 0 ≤ x := fun j a b => (gix a (by omega)).imp fun x hx => hp x (List.mem_of_getElem? hx)
  refine gfl (P := fun x : Int => 1 ≤ x ∧ x ≤ 14) (gb (P := fun z : Int => 0 ≤ z ∧ z < 14) (gb (ri _ (by omega) (by omega)) fun y hy => gv_ok (by omega)) fun z hz => gv_ok (by omega)) fun length hlen => ?_
  obtain ⟨len, rfl⟩ : ∃ n : Nat, length = n := ⟨length.toNat, by omega⟩
  refine gfl (P := fun x : Int => 0 < x ∧ x ≤ 1000001) (gb (P := fun z : Int => 0 ≤ z ∧ z < 3) (gb (ri _ (by omega) (by omega)) fun y hy => gv_ok (by omega)) fun z hz => ?_) fun scale hsc => ?_
  · have : z = 0 ∨ z = 1 ∨ z = 2 := by omega
    rcases this with rfl | rfl | rfl
    · exact ⟨12, ixR_ok (by omega) rfl, by omega⟩
    · exact ⟨1003, ixR_ok (by omega) rfl, by omega⟩
    · exact ⟨1000001, ixR_ok (by omega) rfl, by omega⟩
  refine gfl (P := fun x : Int => 1 ≤ x ∧ x ≤ 24) (gb (P := fun z : Int => 0 ≤ z ∧ z < 24) (gb (ri _ (by omega) (by omega)) fun y hy => gv_ok (by omega)) fun z hz => gv_ok (by omega)) fun many0 hm0 => ?_
  refine gfb (S' := fun x : Int => 1 ≤ x ∧ x ≤ 400) (gfl (P := fun _ => True) (gb (P := fun _ => True) (gb (P := fun _ => True) (gb (ri _ (by omega) (by omega)) fun y hy => gv_ok trivial) fun _ _ => gv_ok trivial) fun _ _ => gv_ok trivial) fun b _ => gif (fun _ => gnx (by omega)) fun _ => gnx (by omega)) fun many hm => ?_
  obtain ⟨mn, rfl⟩ : ∃ n : Nat, many = n := ⟨many.toNat, by omega⟩
  refine gfl (uses_gv hr hp (by omega) (by omega) hsc.1 hsc.2) fun uses ⟨ul, uin⟩ => ?_
  have pgv : ∀ n : Int, 1 ≤ n → n ≤ 14 → Gv ((rngR 0 n).bind fun xs => compM (fun (k : Int) => (ixR row (28 + k)).bind fun y_17 => s_law_use y_17 scale) xs) fun p => (1 ≤ p.length ∧ p.length ≤ 14 ∧ p.length = n.toNat) ∧ ∀ x ∈ p, 0 ≤ x ∧ x ≤ 1000000 := fun n h1 h2 =>
    (gcompMr (by omega) (by omega) fun k h3 h4 => gb (ri _ (by omega) (by omega)) fun y hy => use_gv hy hsc.1 hsc.2).imp fun p ⟨q1, q2⟩ => ⟨by omega, q2⟩
  refine gfl (P := fun p => (1 ≤ p.length ∧ p.length ≤ 14) ∧ ∀ x ∈ p, 0 ≤ x ∧ x ≤ 1000000) ?_ fun pat ⟨pl, pin⟩ => ?_
  · obtain ⟨y, ey, hy⟩ := ri 42 (by omega) (by omega)
    rw [ey, Res.bind_ok, Res.bind_ok, Res.bind_ok]
    exact (pgv _ (by omega) (by omega)).imp fun p h => ⟨⟨h.1.1, h.1.2.1⟩, h.2⟩
  refine gfl (pgv len (by omega) (by omega)) fun other ⟨ol, oin⟩ => ?_
  rw [Int.toNat_natCast] at ol
  obtain ⟨t, et, hf⟩ := fit_gv (len := len) (show 0 < uses.length by omega) (by omega) uin (by omega) (by omega)
  rw [fit_ok et, Res.fl_ok]
  have hfits := fits_ok (show 0 < uses.length by omega) (by omega) (by omega) (by omega) hf
  refine gokl_eq false ?_ ?_
  · rw [if_neg (by rw [decide_eq_true_iff]; exact fun z => z rfl), if_neg (by rw [decide_eq_true_iff]; exact fun z => z rfl)]
    show (s_law_fits (toD t) uses len).bind _ = _
    rw [hfits]
    rfl
  rw [if_neg (by decide)]
  refine gokl_eq t.a ?_ ?_
  · have e3 : ixD (toD (Sum.inr t : Sum Int (T3 Int (List Int) (Int × Int)))) 0 = .ok (toD t.a) := by unfold ixD; rfl
    show (ixD (toD (Sum.inr t : Sum Int (T3 Int (List Int) (Int × Int)))) 0).bind unI = _
    rw [e3, Res.bind_ok, unI_int]
  refine gfl_eq t rfl (gokl_eq 0 rfl (gfl (gapp (by rw [hf.pl]; omega)) fun ys _ => ?_))
  obtain ⟨v, e1, e2, e3⟩ := missed_ok' (show 0 < uses.length by omega) (by omega) uin (by omega) pl.2 pin
  rw [e1, Res.fl_ok]
  refine gfl_eq false ?_ ?_
  · rw [e2, Res.bind_ok, Res.bind_ok, Res.bind_ok, decide_eq_false (fun z => z rfl), if_neg (by decide), whole1]
    rfl
  rw [if_neg (by decide)]
  refine gfl (gapp (by omega)) fun gv2 _ => ?_
  obtain ⟨v2, f1, f2, f3⟩ := missed_ok' (show 0 < uses.length by omega) (by omega) uin (by omega) ol.2.1 oin
  rw [f1, Res.fl_ok]
  refine gfl_eq false ?_ ?_
  · have := fit_least (show 0 < uses.length by omega) hf (by omega) f3
    rw [f2, Res.bind_ok, Res.bind_ok, Res.bind_ok, decide_eq_false (fun z => z rfl), if_neg (by decide), decide_eq_false (show ¬ v2 < t.a by omega)]
  rw [if_neg (by decide)]
  refine gfret ⟨_, ?_, rfl⟩
  rw [refusals_gv hmore.1 (by omega) (by omega) (by omega) pl.2, Res.bind_ok, if_pos rfl, et, Res.bind_ok, Res.bind_ok, hfits]
theorem math (ns : List Int) (_ : ns.length ≤ 63) (_ : ∀ z ∈ ns, PySem.Builtin.Int.intBits z ≤ 1048576) : sem (tblOf T) 1000 9 20 [.lst (ns.map D.int)] = .ok (.val (.bl true)) := math_of (by omega) (main_gv ns)
end PL.K38

open PySem PySem.W PySem.Calls PyProof.Rows
theorem PySem.Challenge.cw_dialhouse_k38_fitted_patterns_holds : PySem.Challenge.rw_dialhouse_k38_fitted_patterns.Holds := by
  w_on; o_law
  refine HandSHeadRun.head_any (r := OpenLaw.row PySem.Challenge.rw_dialhouse_k38_fitted_patterns) (q := view (OpenLaw.row PySem.Challenge.rw_dialhouse_k38_fitted_patterns).prog [32]) (H := PL.K38.hk) (ob := PL.K38.ob) (M := 8000) (loose := PL.K38.names) (d := HandSHeadRun.topDef (OpenLaw.row PySem.Challenge.rw_dialhouse_k38_fitted_patterns).prog 32) (kwd := []) PL.K38.ob_eq
    (by kernel_rfl) (fun s => by kernel_rfl) PL.K38.run (by kernel_rfl) (by kernel_rfl) (by kernel_rfl) (by rfl) (by first | assumption | decide +kernel) (by decide +kernel) ⟨rfl, rfl, rfl, rfl, rfl, by decide +kernel⟩ ?hw ?hc
  case hw => w_witness2
  case hc =>
    exact PL.walk_ofP (l := PySem.Challenge.rw_dialhouse_k38_fitted_patterns) (n := 63) (lv := 9) (f := 20) (F := 1000) (T := PL.K38.T) (ds := PL.K38.ds) (x := "script") rfl (by decide) (by kernel_rfl) ⟨rfl, by decide, by decide⟩ PL.K38.fits rfl rfl rfl rfl rfl (by kernel_rfl) (by kernel_rfl) fun ns h hb => PL.K38.math ns h hb
