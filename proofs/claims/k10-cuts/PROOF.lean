import PyProof.Rows.All
import Wide.All
import OpenK.AllK
import Wide.FinOn
import HandS.ForMost
import HandS.Wide
import HandS.TupAny
import HandS.Style
import HandS.Flow
import HandS.Conv
import HandS.SortInts
import PyProof.ReprRoads
import PyProof.StrLawsRepr
import PyProof.ReprLen
import PyProof.FitsInt
import HandS.SetFor
import PySem.Challenge.RW_sawpast_k10_cuts
section
set_option Elab.async false
set_option linter.all false
set_option maxRecDepth 100000
/-! PvA: trees of plain data, the operations over them, the IR, its evaluator (values alone, no heap). -/
namespace Pv
open PySem

/-- plain data; a text by its code points; a set by its members, each once -/
inductive T where
  | non | bl (b : Bool) | int (i : Int) | str (s : List Nat) | tup (l : List T) | lst (l : List T) | dct (ks vs : List T) | set (l : List T)
instance : Inhabited T := ⟨.non⟩

mutual
def T.d : T → PyData
  | .non => .none
  | .bl b => .bool b
  | .int i => .int i
  | .str s => .str ⟨s.toArray⟩
  | .tup l => .tuple (Ts.d l)
  | .lst l => .list (Ts.d l)
  | .dct _ _ => .none
  | .set _ => .none
def Ts.d : List T → List PyData
  | [] => []
  | t :: l => t.d :: Ts.d l
end
mutual
/-- no dict and no set in it -/
def T.pl : T → Bool
  | .non => true
  | .bl _ => true
  | .int _ => true
  | .str _ => true
  | .tup l => Ts.pl l
  | .lst l => Ts.pl l
  | .dct _ _ => false
  | .set _ => false
def Ts.pl : List T → Bool
  | [] => true
  | t :: l => t.pl && Ts.pl l
end
mutual
/-- nothing in it that may change -/
def T.flat : T → Bool
  | .non => true
  | .bl _ => true
  | .int _ => true
  | .str _ => true
  | .tup l => Ts.flat l
  | .lst _ => false
  | .dct _ _ => false
  | .set _ => false
def Ts.flat : List T → Bool
  | [] => true
  | t :: l => t.flat && Ts.flat l
end
mutual
def T.dep : T → Nat
  | .non => 0
  | .bl _ => 0
  | .int _ => 0
  | .str _ => 0
  | .tup l => Ts.dep l + 1
  | .lst l => Ts.dep l + 1
  | .dct _ _ => 1
  | .set _ => 1
def Ts.dep : List T → Nat
  | [] => 0
  | t :: l => max t.dep (Ts.dep l)
end
def T.mutable : T → Bool
  | .lst _ => true
  | .dct _ _ => true
  | .set _ => true
  | _ => false

/-- Python's truth -/
def truth : T → Bool
  | .non => false
  | .bl b => b
  | .int i => i != 0
  | .str s => !s.isEmpty
  | .tup l => !l.isEmpty
  | .lst l => !l.isEmpty
  | .dct ks _ => !ks.isEmpty
  | .set l => !l.isEmpty

/-- Python's == -/
def eqT (a b : T) : Option Bool := if a.pl && b.pl && decide (min a.dep b.dep ≤ 60) then some (PyData.eqv a.d b.d) else none
def memT (x : T) (l : List T) : Option Bool := if x.pl && Ts.pl l && decide (x.dep ≤ 60) then some (l.any fun y => PyData.eqv y.d x.d) else none

inductive Op where | add | sub | mul | fdiv | mod | pow | shl | band | shr
inductive Cm where | eq | ne | lt | le | gt | ge | isin | notin | is | isnot

/-- lists and texts and tuples have a largest length -/
def okLen (n : Nat) : Bool := decide (n ≤ 1000000)
def bits (i : Int) : Nat := i.natAbs.log2 + 1
def repl {α : Type} (n : Nat) (l : List α) : List α := (List.replicate n l).flatten

/-- so great may the factors be, the divisors -/
def bigN : Nat := 2 ^ 100000
def divN : Nat := 2 ^ 9000
def addT : T → T → Option T
  | .int i, .int j => some (.int (i + j))
  | .str a, .str b => if okLen (a.length + b.length) then some (.str (a ++ b)) else none
  | .lst a, .lst b => if okLen (a.length + b.length) then some (.lst (a ++ b)) else none
  | .tup a, .tup b => if okLen (a.length + b.length) then some (.tup (a ++ b)) else none
  | _, _ => none
def subT : T → T → Option T
  | .int i, .int j => some (.int (i - j))
  | _, _ => none
def okRep (n : Nat) (j : Int) : Bool := okLen (n * j.toNat) && decide (j < 1000000000) && decide (-1000000000 < j)
def mulT : T → T → Option T
  | .int i, .int j => if decide (i.natAbs < bigN) && decide (j.natAbs < bigN) then some (.int (i * j)) else none
  | .str a, .int j => if okRep a.length j then some (.str (repl j.toNat a)) else none
  | .lst a, .int j => if okRep a.length j then some (.lst (repl j.toNat a)) else none
  | _, _ => none
def fdivT : T → T → Option T
  | .int i, .int j => if decide (0 < j) && decide (j.natAbs < divN) then some (.int (i / j)) else none
  | _, _ => none
def modT : T → T → Option T
  | .int i, .int j => if decide (0 < j) then some (.int (i % j)) else none
  | _, _ => none
def powT : T → T → Option T
  | .int i, .int j => if decide (0 ≤ j) && decide (j ≤ 1000000) && decide (i.natAbs < 1000000000) then some (.int (i ^ j.toNat)) else none
  | _, _ => none
def shlT : T → T → Option T
  | .int i, .int j => if decide (0 ≤ j) && decide (j ≤ 1000000) && decide (i.natAbs < 1000000000) then some (.int (i * 2 ^ j.toNat)) else none
  | _, _ => none
def shrT : T → T → Option T
  | .int i, .int j => if decide (0 ≤ j) then some (.int (i / 2 ^ j.toNat)) else none
  | _, _ => none
def bandT : T → T → Option T
  | .int i, .int j => some (.int (Builtin.bitAnd i j))
  | _, _ => none
def opT : Op → T → T → Option T
  | .add => addT
  | .sub => subT
  | .mul => mulT
  | .fdiv => fdivT
  | .mod => modT
  | .pow => powT
  | .shl => shlT
  | .shr => shrT
  | .band => bandT
def negT : T → Option T
  | .int i => some (.int (-i))
  | _ => none
/-- one text in another -/
def inStr (a b : List Nat) : Bool := !(Builtin.Str.occurrences ⟨b.toArray⟩ ⟨a.toArray⟩ 0 b.length 1).isEmpty

mutual
/-- Python's < ; none where it is not told (other kinds) -/
def ltT : T → T → Option Bool
  | .int i, .int j => some (decide (i < j))
  | .str a, .str b => some (decide (a < b))
  | .tup a, .tup b => ltTs a b
  | _, _ => none
def ltTs : List T → List T → Option Bool
  | [], [] => some false
  | [], _ :: _ => some true
  | _ :: _, [] => some false
  | x :: a, y :: b => match eqT x y with
    | some true => ltTs a b
    | some false => ltT x y
    | none => none
end

def inT : T → T → Option Bool
  | x, .tup l => memT x l
  | x, .lst l => memT x l
  | .str a, .str b => some (inStr a b)
  | _, _ => none
def ltS : T → T → Option Bool
  | .int i, .int j => some (decide (i < j))
  | .str a, .str b => some (decide (a < b))
  | _, _ => none
def gtS : T → T → Option Bool
  | .int i, .int j => some (decide (j < i))
  | _, _ => none
def leS : T → T → Option Bool
  | .int i, .int j => some (decide (i ≤ j))
  | _, _ => none
def geS : T → T → Option Bool
  | .int i, .int j => some (decide (j ≤ i))
  | _, _ => none
def T.isN : T → Bool
  | .non => true
  | _ => false
def cmpT : Cm → T → T → Option Bool
  | .eq, a, b => eqT a b
  | .ne, a, b => (eqT a b).map (!·)
  | .lt, a, b => ltS a b
  | .gt, a, b => gtS a b
  | .le, a, b => leS a b
  | .ge, a, b => geS a b
  | .isin, x, y => inT x y
  | .notin, x, y => (inT x y).map (!·)
  | .is, a, .non => some a.isN
  | .is, .bl b, .bl c => some (b == c)
  | .isnot, a, .non => some (!a.isN)
  | .isnot, .bl b, .bl c => some (!(b == c))
  | _, _, _ => none

open L2 (ixN)
def ixT : T → T → Option T
  | .tup l, .int i => (ixN l.length i).bind (l[·]?)
  | .lst l, .int i => (ixN l.length i).bind (l[·]?)
  | .str s, .int i => ((ixN s.length i).bind (s[·]?)).map fun c => .str [c]
  | _, _ => none
/-- a slice -/
def cut {α : Type} (l : List α) (lo hi : Option Int) : List α := (l.drop (HT.sIx l.length 0 lo)).take (HT.sIx l.length l.length hi - HT.sIx l.length 0 lo)
def slT : T → Option Int → Option Int → Option T
  | .tup l, lo, hi => some (.tup (cut l lo hi))
  | .lst l, lo, hi => some (.lst (cut l lo hi))
  | .str s, lo, hi => some (.str (cut s lo hi))
  | _, _, _ => none
def revT : T → Option T
  | .tup l => some (.tup l.reverse)
  | .lst l => some (.lst l.reverse)
  | _ => none

/-! ### sorted -/
def insI (x : Int) : List Int → List Int
  | [] => [x]
  | y :: l => if y < x then y :: insI x l else x :: y :: l
def sortI : List Int → List Int
  | [] => []
  | x :: l => insI x (sortI l)
def insS (x : List Nat) : List (List Nat) → List (List Nat)
  | [] => [x]
  | y :: l => if y < x then y :: insS x l else x :: y :: l
def sortS : List (List Nat) → List (List Nat)
  | [] => []
  | x :: l => insS x (sortS l)
def intsOf : List T → Option (List Int)
  | [] => some []
  | .int i :: l => (intsOf l).map (i :: ·)
  | _ :: _ => none
def strsOf : List T → Option (List (List Nat))
  | [] => some []
  | .str i :: l => (strsOf l).map (i :: ·)
  | _ :: _ => none
def boolsOf : List T → Option (List Bool)
  | [] => some []
  | .bl i :: l => (boolsOf l).map (i :: ·)
  | _ :: _ => none
def sortT (l : List T) : Option T := match intsOf l with
  | some ns => some (.lst ((sortI ns).map .int))
  | none => match strsOf l with
    | some ss => if ss.length < 64 then some (.lst ((sortS ss).map .str)) else none
    | none => none

/-! ### repr -/
mutual
/-- no longer is its text -/
def T.wt : T → Nat
  | .int _ => 2000
  | .str s => 10 * s.length + 2
  | .tup l => Ts.wt l + 4
  | .lst l => Ts.wt l + 4
  | _ => 5
def Ts.wt : List T → Nat
  | [] => 0
  | t :: l => t.wt + 2 + Ts.wt l
end
def reprT (t : T) : List Nat := (PyData.shown t.d).cps.toList
mutual
/-- ints that have a text -/
def T.small : T → Bool
  | .int i => decide (i.natAbs.log2 < 1920)
  | .tup l => Ts.small l
  | .lst l => Ts.small l
  | _ => true
def Ts.small : List T → Bool
  | [] => true
  | t :: l => t.small && Ts.small l
end
def T.isSq : T → Bool
  | .tup _ => true
  | .lst _ => true
  | _ => false

/-- each once, as they come -/
def dedup : List T → Option (List T)
  | [] => some []
  | x :: l => do
    let r ← dedup l
    let b ← memT x r
    some (if b then r else x :: r)

inductive Bi where
  | len | list | tuple | sorted | sum | all | any | repr | int | min2 | max2 | abs
def lenT : List T → Option T
  | [.tup l] => some (.int l.length)
  | [.lst l] => some (.int l.length)
  | [.str l] => some (.int l.length)
  | _ => none
def listT : List T → Option T
  | [.tup l] => some (.lst l)
  | [.lst l] => some (.lst l)
  | _ => none
def tupleT : List T → Option T
  | [.tup l] => some (.tup l)
  | [.lst l] => some (.tup l)
  | _ => none
def sortedT : List T → Option T
  | [.lst l] => sortT l
  | _ => none
def sumT : List T → Option T
  | [.lst l] => (intsOf l).map fun ns => .int ns.sum
  | _ => none
def allT : List T → Option T
  | [.lst l] => (boolsOf l).map fun bs => .bl (bs.all id)
  | _ => none
def anyT : List T → Option T
  | [.lst l] => (boolsOf l).map fun bs => .bl (bs.any id)
  | _ => none
def reprB : List T → Option T
  | [t] => if t.isSq && t.pl && t.small && decide (t.dep ≤ 60) && okLen t.wt then some (.str (reprT t)) else none
  | _ => none
def intB : List T → Option T
  | [.bl b] => some (.int (if b then 1 else 0))
  | [.int i] => some (.int i)
  | _ => none
def min2T : List T → Option T
  | [.int i, .int j] => some (.int (if j < i then j else i))
  | _ => none
def max2T : List T → Option T
  | [.int i, .int j] => some (.int (if j > i then j else i))
  | _ => none
def absT : List T → Option T
  | [.int i] => some (.int (if i < 0 then -i else i))
  | _ => none
def biT : Bi → List T → Option T
  | .len => lenT
  | .list => listT
  | .tuple => tupleT
  | .sorted => sortedT
  | .sum => sumT
  | .all => allT
  | .any => anyT
  | .repr => reprB
  | .int => intB
  | .min2 => min2T
  | .max2 => max2T
  | .abs => absT

/-- what a for walks -/
def iterT : T → Option (List T)
  | .tup l => some l
  | .lst l => some l
  | .str s => some (s.map fun c => .str [c])
  | _ => none

inductive Pat where
  | nm (i : Nat)
  | tup (l : List Nat)
  | star (pre : List Nat) (s : Nat) (post : List Nat)

mutual
inductive Ir where
  | nm (i : Nat)
  | con (t : T)
  | bin (o : Op) (a b : Ir)
  | neg (a : Ir)
  | cmp (c : Cm) (a b : Ir)
  | cmp2 (c c2 : Cm) (a b d : Ir)
  | and (a b : Ir)
  | or (a b : Ir)
  | not (a : Ir)
  | ite (c a b : Ir)
  | tup (es : List Ir)
  | lst (es : List Ir)
  | ix (o i : Ir)
  | sl (o : Ir) (lo hi : Option Ir)
  | rev (o : Ir)
  /-- io: the first argument is changed in place -/
  | call (f : Nat) (io : Bool) (args : List Ir)
  /-- with keywords: parameter j is the argument of the place perm[j] -/
  | callk (f : Nat) (args : List Ir) (perm : List Nat)
  | bi (b : Bi) (args : List Ir)
  /-- list(range(n)) -/
  | lrg (n : Ir)
  /-- [e for p in it if cs ..], what clauses follow -/
  | lc (p : Pat) (it : Wk) (cs : List Ir) (g : List Cl) (e : Ir)
  | sc (p : Pat) (it : Wk) (cs : List Ir) (g : List Cl) (e : Ir)
  /-- x.pop(), x.pop(a), x[p].pop() -/
  | pop (i : Nat) (p : Option Ir) (a : Option Ir)
  /-- x.append(a), x[p].append(a) -/
  | app (i : Nat) (p : Option Ir) (a : Ir)
  | rem (i : Nat) (a : Ir)
  /-- x[k] of a list of lists of one's own, no list there -/
  | ixs (i : Nat) (k : Int)
  /-- x[k] != [] -/
  | dne (i : Nat) (k : Int)
inductive Wk where
  | ex (e : Ir)
  | range (a : Ir)
  | range2 (a b : Ir)
  | enum (e : Ir)
  | zip (a b : Ir)
inductive Cl where
  | mk (p : Pat) (it : Wk) (ifs : List Ir)
end

inductive Stm where
  | asg (p : Pat) (e : Ir)
  | par (l : List Nat) (es : List Ir)
  | setix (i : Nat) (k e : Ir)
  | aug (i : Nat) (o : Op) (e : Ir)
  | expr (e : Ir)
  | ret (e : Ir)
  | retN
  | ite (c : Ir) (a b : List Stm)
  | for_ (p : Pat) (it : Wk) (b : List Stm)
  | while_ (c : Ir) (b : List Stm)
  | frz (i : Nat)
  | brk
  | cont

abbrev Env := List (Option T)
inductive Fl where
  | nx | brk | cont | ret (t : T)

def getV (env : Env) (i : Nat) : Option T := (env[i]?).join
def setAll : List Nat → List T → Env → Option Env
  | [], [], env => some env
  | i :: l, t :: ts, env => setAll l ts (env.set i (some t))
  | _, _, _ => none
def bindP : Pat → T → Env → Option Env
  | .nm i, t, env => some (env.set i (some t))
  | .tup l, .tup ts, env => setAll l ts env
  | .star a s b, .tup ts, env =>
    if a.length + b.length ≤ ts.length then
      (setAll a (ts.take a.length) env).bind fun env => setAll b (ts.drop (ts.length - b.length)) (env.set s (some (.lst ((ts.take (ts.length - b.length)).drop a.length))))
    else none
  | _, _, _ => none
def Pat.slots : Pat → List Nat
  | .nm i => [i]
  | .tup l => l
  | .star a s b => a ++ s :: b
def restore (old : Env) : List Nat → Env → Env
  | [], env => env
  | i :: l, env => (restore old l env).set i ((old[i]?).join)

/-- what a call does: the arguments; what comes back, and what a changed first argument is then -/
abbrev Cal := Nat → List T → Option (T × Option T)

def listOf : T → Option (List T)
  | .lst l => some l
  | _ => none
def popL (l : List T) (i : Int) : Option (T × List T) :=
  if okLen l.length then do
    let k ← ixN l.length i
    let x ← l[k]?
    some (x, l.eraseIdx k)
  else none
def intOf : T → Option Int
  | .int i => some i
  | _ => none
def posI (k : Int) : List Int → Option Nat
  | [] => none
  | i :: l => if i = k then some 0 else (posI k l).map (· + 1)

mutual
def Cl.slots : List Cl → List Nat
  | [] => []
  | .mk p _ _ :: r => p.slots ++ Cl.slots r
end

/-- names are forgotten -/
def wipeE : List Nat → Env → Env
  | [], env => env
  | i :: l, env => (wipeE l env).set i none
/-- a comprehension's clause; vs: its names and those of the clauses behind it -/
def walkC (vs : List Nat) (p : Pat) (c : Env → Option (Bool × Env)) (f : Env → Option (List T × Env)) : List T → Env → Option (List T × Env)
  | [], env => some ([], env)
  | t :: l, env => do
    let env ← bindP p t (wipeE vs env)
    let (ok, env) ← c env
    if ok then do
      let (xs, env) ← f env
      let (ys, env) ← walkC vs p c f l env
      some (xs ++ ys, env)
    else walkC vs p c f l env
def forL (f : T → Env → Option (Fl × Env)) : List T → Env → Option (Fl × Env)
  | [], env => some (.nx, env)
  | t :: l, env => do
    let (r, env) ← f t env
    match r with
    | .nx => forL f l env
    | .cont => forL f l env
    | .brk => some (.nx, env)
    | .ret v => some (.ret v, env)
def whileL (c : Env → Option (T × Env)) (b : Env → Option (Fl × Env)) : Nat → Env → Option (Fl × Env)
  | 0, _ => none
  | n + 1, env => do
    let (x, env) ← c env
    if truth x then do
      let (r, env) ← b env
      match r with
      | .nx => whileL c b n env
      | .cont => whileL c b n env
      | .brk => some (.nx, env)
      | .ret v => some (.ret v, env)
    else some (.nx, env)
section
variable (C : Cal)
mutual
def evE : Ir → Env → Option (T × Env)
  | .nm i, env => (getV env i).map fun t => (t, env)
  | .con t, env => some (t, env)
  | .bin o a b, env => do
    let (x, env) ← evE a env
    let (y, env) ← evE b env
    let z ← opT o x y
    some (z, env)
  | .neg a, env => do
    let (x, env) ← evE a env
    let z ← negT x
    some (z, env)
  | .cmp c a b, env => do
    let (x, env) ← evE a env
    let (y, env) ← evE b env
    let z ← cmpT c x y
    some (.bl z, env)
  | .cmp2 c c2 a b d, env => do
    let (x, env) ← evE a env
    let (y, env) ← evE b env
    let z ← cmpT c x y
    if z then do
      let (u, env) ← evE d env
      let z ← cmpT c2 y u
      some (.bl z, env)
    else some (.bl false, env)
  | .and a b, env => do
    let (x, env) ← evE a env
    if truth x then evE b env else some (x, env)
  | .or a b, env => do
    let (x, env) ← evE a env
    if truth x then some (x, env) else evE b env
  | .not a, env => do
    let (x, env) ← evE a env
    some (.bl (!truth x), env)
  | .ite c a b, env => do
    let (x, env) ← evE c env
    if truth x then evE a env else evE b env
  | .tup es, env => do
    let (xs, env) ← evEs es env
    some (.tup xs, env)
  | .lst es, env => do
    let (xs, env) ← evEs es env
    some (.lst xs, env)
  | .ix o i, env => do
    let (x, env) ← evE o env
    let (y, env) ← evE i env
    let z ← ixT x y
    some (z, env)
  | .sl o lo hi, env => do
    let (x, env) ← evE o env
    let (a, env) ← evO lo env
    let (b, env) ← evO hi env
    let z ← slT x a b
    some (z, env)
  | .rev o, env => do
    let (x, env) ← evE o env
    let z ← revT x
    some (z, env)
  | .call f false as, env => do
    let (xs, env) ← evEs as env
    let (r, _) ← C f xs
    some (r, env)
  | .call f true (.nm i :: as), env => do
    let _ ← getV env i
    let (xs, env) ← evEs as env
    let t ← getV env i
    let (r, out) ← C f (t :: xs)
    let t' ← out
    some (r, env.set i (some t'))
  | .call _ true _, _ => none
  | .callk f as perm, env => do
    let (xs, env) ← evEs as env
    let (t, _) ← C f (perm.map fun k => xs.getD k .non)
    some (t, env)
  | .bi b as, env => do
    let (xs, env) ← evEs as env
    let z ← biT b xs
    some (z, env)
  | .lrg a, env => do
    let (x, env) ← evE a env
    let n ← intOf x
    if decide (0 ≤ n) && decide (n ≤ 1000000) then some (.lst ((List.range n.toNat).map fun (k : Nat) => T.int (0 + (k : Int))), env) else none
  | .lc p it cs g e, env => do
    let (l, env1) ← evI it env
    let (xs, env2) ← walkC (p.slots ++ Cl.slots g) p (fun env => evC cs env) (fun env => evG g (fun env => evE e env) env) l env1
    if okLen xs.length then some (.lst xs, restore env1 (p.slots ++ Cl.slots g) (wipeE (p.slots ++ Cl.slots g) env2)) else none
  | .sc p it cs g e, env => do
    let (l, env1) ← evI it env
    let (xs, env2) ← walkC (p.slots ++ Cl.slots g) p (fun env => evC cs env) (fun env => evG g (fun env => evE e env) env) l env1
    let ys ← dedup xs
    if okLen xs.length then some (.set ys, restore env1 (p.slots ++ Cl.slots g) (wipeE (p.slots ++ Cl.slots g) env2)) else none
  | .pop i none a, env => do
    let t0 ← getV env i
    let _ ← listOf t0
    let (k, env) ← evO a env
    let t ← getV env i
    let l ← listOf t
    let (x, l) ← popL l (k.getD (-1))
    some (x, env.set i (some (.lst l)))
  | .pop i (some p) a, env => do
    let t0 ← getV env i
    let _ ← listOf t0
    let (q, env) ← evE p env
    let (k, env) ← evO a env
    let t ← getV env i
    let l ← listOf t
    let q ← intOf q
    let j ← ixN l.length q
    let u ← l[j]?
    let m ← listOf u
    let (x, m) ← popL m (k.getD (-1))
    some (x, env.set i (some (.lst (l.set j (.lst m)))))
  | .app i none a, env => do
    let t0 ← getV env i
    let _ ← listOf t0
    let (x, env) ← evE a env
    let t ← getV env i
    let l ← listOf t
    if okLen (l.length + 1) then some (.non, env.set i (some (.lst (l ++ [x])))) else none
  | .app i (some p) a, env => do
    let t0 ← getV env i
    let _ ← listOf t0
    let (q, env) ← evE p env
    let (x, env) ← evE a env
    let t ← getV env i
    let l ← listOf t
    let q ← intOf q
    let j ← ixN l.length q
    let u ← l[j]?
    let m ← listOf u
    if okLen (m.length + 1) then some (.non, env.set i (some (.lst (l.set j (.lst (m ++ [x])))))) else none
  | .rem i a, env => do
    let t0 ← getV env i
    let _ ← listOf t0
    let (x, env) ← evE a env
    let t ← getV env i
    let l ← listOf t
    let k ← intOf x
    let ns ← intsOf l
    let j ← posI k ns
    some (.non, env.set i (some (.lst ((ns.eraseIdx j).map T.int))))
  | .ixs i k, env => do
    let t ← getV env i
    let l ← listOf t
    let j ← ixN l.length k
    let u ← l[j]?
    if u.mutable then none else some (u, env)
  | .dne i k, env => do
    let t ← getV env i
    let l ← listOf t
    let j ← ixN l.length k
    let u ← l[j]?
    let m ← listOf u
    if Ts.pl m then some (.bl (!m.isEmpty), env) else none
def evEs : List Ir → Env → Option (List T × Env)
  | [], env => some ([], env)
  | e :: es, env => do
    let (x, env) ← evE e env
    let (xs, env) ← evEs es env
    some (x :: xs, env)
/-- an int, or none told -/
def evO : Option Ir → Env → Option (Option Int × Env)
  | none, env => some (none, env)
  | some e, env => do
    let (x, env) ← evE e env
    match x with
    | .int i => some (some i, env)
    | _ => none
def evI : Wk → Env → Option (List T × Env)
  | .ex e, env => do
    let (x, env) ← evE e env
    let l ← iterT x
    some (l, env)
  | .range a, env => do
    let (x, env) ← evE a env
    match x with
    | .int n => if decide (-1000000 ≤ n) && decide (n ≤ 1000000) then some ((List.range n.toNat).map fun (k : Nat) => T.int (0 + (k : Int)), env) else none
    | _ => none
  | .range2 a b, env => do
    let (x, env) ← evE a env
    let (y, env) ← evE b env
    match x, y with
    | .int m, .int n => if decide (-1000000 ≤ m) && decide (m ≤ 1000000) && decide (-1000000 ≤ n) && decide (n ≤ 1000000) then some ((List.range (n - m).toNat).map fun (k : Nat) => T.int (m + (k : Int)), env) else none
    | _, _ => none
  | .enum e, env => do
    let (x, env) ← evE e env
    let l ← listOf x
    some (l.mapIdx fun k t => .tup [.int (k : Int), t], env)
  | .zip a b, env => do
    let (x, env) ← evE a env
    let (y, env) ← evE b env
    let l ← listOf x
    let m ← listOf y
    some (List.zipWith (fun t u => .tup [t, u]) l m, env)
def evC : List Ir → Env → Option (Bool × Env)
  | [], env => some (true, env)
  | c :: cs, env => do
    let (x, env) ← evE c env
    if truth x then evC cs env else some (false, env)
/-- what a comprehension's further clauses make of its element -/
def evG : List Cl → (Env → Option (T × Env)) → Env → Option (List T × Env)
  | [], e, env => do
    let (x, env) ← e env
    some ([x], env)
  | .mk p it cs :: gs, e, env => do
    let (l, env) ← evI it env
    walkC (p.slots ++ Cl.slots gs) p (fun env => evC cs env) (fun env => evG gs e env) l env
end

/-- so many turns a while may have -/
def turns : Nat := 1000000

mutual
def evS : Stm → Env → Option (Fl × Env)
  | .asg p e, env => do
    let (x, env) ← evE C e env
    let env ← bindP p x env
    some (.nx, env)
  | .par l es, env => do
    let (xs, env) ← evEs C es env
    let env ← setAll l xs env
    some (.nx, env)
  | .setix i k e, env => do
    let (x, env) ← evE C e env
    let t0 ← getV env i
    let _ ← listOf t0
    let (q, env) ← evE C k env
    let t ← getV env i
    let l ← listOf t
    let q ← intOf q
    let j ← ixN l.length q
    some (.nx, env.set i (some (.lst (l.set j x))))
  | .aug i o e, env => do
    let t ← getV env i
    let m ← intOf t
    let (x, env) ← evE C e env
    let n ← intOf x
    let z ← opT o (.int m) (.int n)
    some (.nx, env.set i (some z))
  | .expr e, env => do
    let (_, env) ← evE C e env
    some (.nx, env)
  | .ret e, env => do
    let (x, env) ← evE C e env
    some (.ret x, env)
  | .retN, env => some (.ret .non, env)
  | .ite c a b, env => do
    let (x, env) ← evE C c env
    if truth x then evB a env else evB b env
  | .for_ p it b, env => do
    let (l, env) ← evI C it env
    forL (fun t env => (bindP p t env).bind (evB b)) l env
  | .while_ c b, env => whileL (evE C c) (evB b) turns env
  | .frz _, env => some (.nx, env)
  | .brk, env => some (.brk, env)
  | .cont, env => some (.cont, env)
def evB : List Stm → Env → Option (Fl × Env)
  | [], env => some (.nx, env)
  | s :: r, env => do
    let (f, env) ← evS s env
    match f with
    | .nx => evB r env
    | f => some (f, env)
end
end

/-- a def: how many parameters, how many names, which parameters are changed in place, the body -/
structure Fn where
  np : Nat
  ns : Nat
  io : Bool
  body : List Stm
/-- what a body's end gives back -/
def endOf : Fl → Option T
  | .ret t => some t
  | .nx => some .non
  | _ => none
/-- calls, so deep -/
def callN (tbl : List Fn) : Nat → Cal
  | 0 => fun _ _ => none
  | n + 1 => fun f ts => do
    let d ← tbl[f]?
    if ts.length = d.np then do
      let (r, env) ← evB (callN tbl n) d.body (ts.map some ++ List.replicate (d.ns - d.np) none)
      let v ← endOf r
      if d.io then do
        let t ← getV env 0
        some (v, some t)
      else some (v, none)
    else none
end Pv
end

section
set_option Elab.async false
set_option linter.all false
set_option maxRecDepth 100000
/-! PvC: how a tree lies in the abstract heap; who owns what; the state of a def. -/
namespace Pv
open PySem PySem.Spec PyProof.Rows L2

def strOkL (s : List Nat) : Bool := s.all fun c => decide (c < 0x110000)

section
variable (K : PySem.W.Frag) (F : Hp)
mutual
/-- the tree t lies at v, by what never changes -/
inductive Rep : T → V → Prop
  | non : Rep .non .non
  | bl (b : Bool) : Rep (.bl b) (.bl b)
  | int (i : Int) : Rep (.int i) (.int i)
  | str (s : List Nat) : strOkL s = true → okLen s.length = true → Rep (.str s) (.str ⟨s.toArray⟩)
  | tup {ts : List T} {a : Addr} {xs : List V} : SqT K F a xs → Reps ts xs → Rep (.tup ts) (.ref a)
  | lst {ts : List T} {a : Addr} {xs : List V} : F a = some (.lst xs) → Reps ts xs → Rep (.lst ts) (.ref a)
inductive Reps : List T → List V → Prop
  | nil : Reps [] []
  | cons {t : T} {ts : List T} {x : V} {xs : List V} : Rep t x → Reps ts xs → Reps (t :: ts) (x :: xs)
end
end
theorem Same.seqT {K : PySem.W.Frag} {H H' : Hp} {a : Addr} {xs : List V} (e : Same H H') (h : SqT K H a xs) : SqT K H' a xs := by
  rcases h with (h | ⟨o, h⟩) | h
  · exact .inl (.inl (e _ _ h))
  · exact .inl (.inr ⟨o, e _ _ h⟩)
  · exact .inr h
section
variable {K : PySem.W.Frag} {F F' : Hp}
mutual
theorem Rep.mono (e : Same F F') : ∀ {t : T} {v : V}, Rep K F t v → Rep K F' t v
  | _, _, .non => .non
  | _, _, .bl b => .bl b
  | _, _, .int i => .int i
  | _, _, .str s h h' => .str s h h'
  | _, _, .tup h r => .tup (Same.seqT e h) (Reps.mono e r)
  | _, _, .lst h r => .lst (e _ _ h) (Reps.mono e r)
theorem Reps.mono (e : Same F F') : ∀ {ts : List T} {xs : List V}, Reps K F ts xs → Reps K F' ts xs
  | _, _, .nil => .nil
  | _, _, .cons h r => .cons (Rep.mono e h) (Reps.mono e r)
end
theorem Reps.length : ∀ {ts : List T} {xs : List V}, Reps K F ts xs → ts.length = xs.length
  | _, _, .nil => rfl
  | _, _, .cons _ r => congrArg (· + 1) (Reps.length r)
theorem Reps.get : ∀ {ts : List T} {xs : List V}, Reps K F ts xs → ∀ {i : Nat} {t : T}, ts[i]? = some t → ∃ x, xs[i]? = some x ∧ Rep K F t x
  | _, _, .nil, i, t, h => by simp at h
  | _, _, .cons h r, 0, t, e => by
    simp at e
    subst e
    exact ⟨_, rfl, h⟩
  | _, _, .cons h r, i + 1, t, e => by
    obtain ⟨x, h1, h2⟩ := Reps.get r (i := i) (t := t) (by simpa using e)
    exact ⟨x, by simpa using h1, h2⟩
theorem Reps.append : ∀ {ts us : List T} {xs ys : List V}, Reps K F ts xs → Reps K F us ys → Reps K F (ts ++ us) (xs ++ ys)
  | _, _, _, _, .nil, s => s
  | _, _, _, _, .cons h r, s => .cons h (Reps.append r s)
theorem Reps.take : ∀ {ts : List T} {xs : List V}, Reps K F ts xs → ∀ n, Reps K F (ts.take n) (xs.take n)
  | _, _, _, 0 => .nil
  | _, _, .nil, _ + 1 => .nil
  | _, _, .cons h r, n + 1 => .cons h (Reps.take r n)
theorem Reps.drop : ∀ {ts : List T} {xs : List V}, Reps K F ts xs → ∀ n, Reps K F (ts.drop n) (xs.drop n)
  | _, _, r, 0 => r
  | _, _, .nil, _ + 1 => .nil
  | _, _, .cons h r, n + 1 => Reps.drop r n
theorem Reps.reverse : ∀ {ts : List T} {xs : List V}, Reps K F ts xs → Reps K F ts.reverse xs.reverse
  | _, _, .nil => .nil
  | _, _, .cons h r => by
    rw [List.reverse_cons, List.reverse_cons]
    exact Reps.append (Reps.reverse r) (.cons h .nil)
theorem Reps.repl {ts : List T} {xs : List V} (r : Reps K F ts xs) : ∀ n, Reps K F (repl n ts) (List.replicate n xs).flatten
  | 0 => .nil
  | n + 1 => by
    show Reps K F (List.replicate (n + 1) ts).flatten _
    rw [List.replicate_succ, List.replicate_succ, List.flatten_cons, List.flatten_cons]
    exact Reps.append r (Reps.repl r n)
theorem Reps.set {t : T} {x : V} (h : Rep K F t x) : ∀ {ts : List T} {xs : List V}, Reps K F ts xs → ∀ i, Reps K F (ts.set i t) (xs.set i x)
  | _, _, .nil, _ => .nil
  | _, _, .cons _ r, 0 => .cons h r
  | _, _, .cons g r, i + 1 => .cons g (Reps.set h r i)
theorem Reps.eraseIdx : ∀ {ts : List T} {xs : List V}, Reps K F ts xs → ∀ i, Reps K F (ts.eraseIdx i) (xs.eraseIdx i)
  | _, _, .nil, _ => .nil
  | _, _, .cons _ r, 0 => r
  | _, _, .cons g r, i + 1 => .cons g (Reps.eraseIdx r i)
theorem Reps.of_get : ∀ {ts : List T} {xs : List V}, ts.length = xs.length → (∀ (i : Nat) (t : T) (x : V), ts[i]? = some t → xs[i]? = some x → Rep K F t x) → Reps K F ts xs
  | [], [], _, _ => .nil
  | [], _ :: _, e, _ => by simp at e
  | _ :: _, [], e, _ => by simp at e
  | t :: ts, x :: xs, e, h => .cons (h 0 t x rfl rfl) (Reps.of_get (by simpa using e) fun i t' x' h1 h2 => h (i + 1) t' x' (by simpa using h1) (by simpa using h2))
end

/-! ### lists that are one's own -/
def OwnL (R : T → V → List Addr → Prop) : List T → List V → List Addr → Prop
  | [], [], as => as = []
  | t :: ts, v :: vs, as => ∃ a1 a2, R t v a1 ∧ OwnL R ts vs a2 ∧ as = a1 ++ a2
  | _, _, _ => False
/-- the tree t lies at v; down to the depth d its lists are one's own, at as -/
def OwnR (K : PySem.W.Frag) (F H : Hp) : Nat → T → V → List Addr → Prop
  | 0, t, v, as => as = [] ∧ Rep K F t v
  | d + 1, .lst ts, v, as => ∃ a xs r, v = .ref a ∧ H a = some (.lst xs) ∧ F a = none ∧ OwnL (OwnR K F H d) ts xs r ∧ as = a :: r
  | _ + 1, t, v, as => as = [] ∧ Rep K F t v

section
variable {K : PySem.W.Frag} {F F' H H' : Hp}
theorem OwnL.mono {R R' : T → V → List Addr → Prop} : ∀ {ts : List T} {vs : List V} {as : List Addr}, OwnL R ts vs as → (∀ t v al, (∀ a ∈ al, a ∈ as) → R t v al → R' t v al) → OwnL R' ts vs as
  | [], [], _, h, _ => h
  | [], _ :: _, _, h, _ => h.elim
  | _ :: _, [], _, h, _ => h.elim
  | t :: ts, v :: vs, as, h, k => by
    obtain ⟨a1, a2, h1, h2, rfl⟩ := h
    exact ⟨a1, a2, k t v a1 (fun a ha => List.mem_append_left _ ha) h1, OwnL.mono h2 fun t v al hs r => k t v al (fun a ha => List.mem_append_right _ (hs a ha)) r, rfl⟩
theorem OwnL.length {R : T → V → List Addr → Prop} : ∀ {ts : List T} {vs : List V} {as : List Addr}, OwnL R ts vs as → ts.length = vs.length
  | [], [], _, _ => rfl
  | [], _ :: _, _, h => h.elim
  | _ :: _, [], _, h => h.elim
  | t :: ts, v :: vs, as, h => by
    obtain ⟨a1, a2, h1, h2, rfl⟩ := h
    exact congrArg (· + 1) (OwnL.length h2)
/-- the world goes on: what one owns stays as it is -/
theorem OwnR.mono (e : Same F F') : ∀ (d : Nat) {t : T} {v : V} {as : List Addr}, OwnR K F H d t v as → (∀ a ∈ as, H' a = H a ∧ F' a = none) → OwnR K F' H' d t v as
  | 0, t, v, as, h, _ => ⟨h.1, h.2.mono e⟩
  | d + 1, .lst ts, v, as, h, k => by
    obtain ⟨a, xs, r, rfl, h1, h2, h3, rfl⟩ := h
    refine ⟨a, xs, r, rfl, by rw [(k a List.mem_cons_self).1]; exact h1, (k a List.mem_cons_self).2, ?_, rfl⟩
    exact OwnL.mono h3 fun t v al hs q => OwnR.mono e d q fun b hb => k b (List.mem_cons_of_mem _ (hs b hb))
  | d + 1, .non, v, as, h, _ => ⟨h.1, h.2.mono e⟩
  | d + 1, .bl _, v, as, h, _ => ⟨h.1, h.2.mono e⟩
  | d + 1, .int _, v, as, h, _ => ⟨h.1, h.2.mono e⟩
  | d + 1, .str _, v, as, h, _ => ⟨h.1, h.2.mono e⟩
  | d + 1, .tup _, v, as, h, _ => ⟨h.1, h.2.mono e⟩
  | d + 1, .dct _ _, v, as, h, _ => ⟨h.1, h.2.mono e⟩
  | d + 1, .set _, v, as, h, _ => ⟨h.1, h.2.mono e⟩
theorem OwnL.zero : ∀ {ts : List T} {vs : List V} {as : List Addr}, OwnL (OwnR K F H 0) ts vs as → as = [] ∧ Reps K F ts vs
  | [], [], _, h => ⟨h, .nil⟩
  | [], _ :: _, _, h => h.elim
  | _ :: _, [], _, h => h.elim
  | t :: ts, v :: vs, as, h => by
    obtain ⟨a1, a2, ⟨rfl, h1⟩, h2, rfl⟩ := h
    obtain ⟨rfl, r⟩ := OwnL.zero h2
    exact ⟨rfl, .cons h1 r⟩
theorem OwnL.of_zero : ∀ {ts : List T} {vs : List V}, Reps K F ts vs → OwnL (OwnR K F H 0) ts vs []
  | _, _, .nil => rfl
  | _, _, .cons h r => ⟨[], [], ⟨rfl, h⟩, OwnL.of_zero r, rfl⟩
theorem OwnR.one {ts : List T} {v : V} {as : List Addr} (h : OwnR K F H 1 (.lst ts) v as) : ∃ a xs, v = .ref a ∧ H a = some (.lst xs) ∧ F a = none ∧ Reps K F ts xs ∧ as = [a] := by
  obtain ⟨a, xs, r, rfl, h1, h2, h3, rfl⟩ := h
  obtain ⟨rfl, h4⟩ := OwnL.zero h3
  exact ⟨a, xs, rfl, h1, h2, h4, rfl⟩
theorem OwnR.of_one {ts : List T} {a : Addr} {xs : List V} (h1 : H a = some (.lst xs)) (h2 : F a = none) (h3 : Reps K F ts xs) : OwnR K F H 1 (.lst ts) (.ref a) [a] :=
  ⟨a, xs, [], rfl, h1, h2, OwnL.of_zero h3, rfl⟩
/-- what is no list lies alike at any depth -/
theorem OwnR.same {t : T} {v : V} (d : Nat) (h : Rep K F t v) (hm : t.mutable = false) : OwnR K F H d t v [] := by
  cases d with
  | zero => exact ⟨rfl, h⟩
  | succ d => cases t <;> first | exact ⟨rfl, h⟩ | cases hm
theorem OwnR.same_inv {t : T} {v : V} {d : Nat} {as : List Addr} (h : OwnR K F H d t v as) (hm : t.mutable = false) : as = [] ∧ Rep K F t v := by
  cases d with
  | zero => exact h
  | succ d => cases t <;> first | exact h | cases hm

/-- the frozen part, with what stood at as put to it -/
def freeze (F H : Hp) (as : List Addr) : Hp := fun a => if a ∈ as then H a else F a
theorem freeze_same {as : List Addr} (n : ∀ a ∈ as, F a = none) : Same F (freeze F H as) := fun a o e => by
  unfold freeze
  by_cases h : a ∈ as
  · rw [n a h] at e; cases e
  · rw [if_neg h]; exact e
theorem freeze_sub {as : List Addr} (s : Same F H) : Same (freeze F H as) H := fun a o e => by
  unfold freeze at e
  split at e
  · exact e
  · exact s a o e
theorem freeze_out {as : List Addr} {a : Addr} (h : a ∉ as) : freeze F H as a = F a := by unfold freeze; rw [if_neg h]
mutual
theorem OwnR.none_at : ∀ (d : Nat) {t : T} {v : V} {as : List Addr}, OwnR K F H d t v as → ∀ a ∈ as, F a = none
  | 0, t, v, as, h, a, ha => by rw [h.1] at ha; cases ha
  | d + 1, .lst ts, v, as, h, a, ha => by
    obtain ⟨b, xs, r, rfl, h1, h2, h3, rfl⟩ := h
    rcases List.mem_cons.mp ha with e | ha
    · rw [e]; exact h2
    · exact OwnL.none_at d h3 a ha
  | d + 1, .non, v, as, h, a, ha => by rw [h.1] at ha; cases ha
  | d + 1, .bl _, v, as, h, a, ha => by rw [h.1] at ha; cases ha
  | d + 1, .int _, v, as, h, a, ha => by rw [h.1] at ha; cases ha
  | d + 1, .str _, v, as, h, a, ha => by rw [h.1] at ha; cases ha
  | d + 1, .tup _, v, as, h, a, ha => by rw [h.1] at ha; cases ha
  | d + 1, .dct _ _, v, as, h, a, ha => by rw [h.1] at ha; cases ha
  | d + 1, .set _, v, as, h, a, ha => by rw [h.1] at ha; cases ha
theorem OwnL.none_at : ∀ (d : Nat) {ts : List T} {vs : List V} {as : List Addr}, OwnL (OwnR K F H d) ts vs as → ∀ a ∈ as, F a = none
  | d, [], [], as, h, a, ha => by
    have h : as = [] := h
    rw [h] at ha; cases ha
  | d, [], _ :: _, _, h, _, _ => h.elim
  | d, _ :: _, [], _, h, _, _ => h.elim
  | d, t :: ts, v :: vs, as, h, a, ha => by
    obtain ⟨a1, a2, h1, h2, rfl⟩ := h
    rcases List.mem_append.mp ha with ha | ha
    · exact OwnR.none_at d h1 a ha
    · exact OwnL.none_at d h2 a ha
end
mutual
theorem OwnR.there : ∀ (d : Nat) {t : T} {v : V} {as : List Addr}, OwnR K F H d t v as → ∀ a ∈ as, ∃ xs, H a = some (.lst xs)
  | 0, t, v, as, h, a, ha => by rw [h.1] at ha; cases ha
  | d + 1, .lst ts, v, as, h, a, ha => by
    obtain ⟨b, xs, r, rfl, h1, h2, h3, rfl⟩ := h
    rcases List.mem_cons.mp ha with e | ha
    · rw [e]; exact ⟨_, h1⟩
    · exact OwnL.there d h3 a ha
  | d + 1, .non, v, as, h, a, ha => by rw [h.1] at ha; cases ha
  | d + 1, .bl _, v, as, h, a, ha => by rw [h.1] at ha; cases ha
  | d + 1, .int _, v, as, h, a, ha => by rw [h.1] at ha; cases ha
  | d + 1, .str _, v, as, h, a, ha => by rw [h.1] at ha; cases ha
  | d + 1, .tup _, v, as, h, a, ha => by rw [h.1] at ha; cases ha
  | d + 1, .dct _ _, v, as, h, a, ha => by rw [h.1] at ha; cases ha
  | d + 1, .set _, v, as, h, a, ha => by rw [h.1] at ha; cases ha
theorem OwnL.there : ∀ (d : Nat) {ts : List T} {vs : List V} {as : List Addr}, OwnL (OwnR K F H d) ts vs as → ∀ a ∈ as, ∃ xs, H a = some (.lst xs)
  | d, [], [], as, h, a, ha => by
    have h : as = [] := h
    rw [h] at ha; cases ha
  | d, [], _ :: _, _, h, _, _ => h.elim
  | d, _ :: _, [], _, h, _, _ => h.elim
  | d, t :: ts, v :: vs, as, h, a, ha => by
    obtain ⟨a1, a2, h1, h2, rfl⟩ := h
    rcases List.mem_append.mp ha with ha | ha
    · exact OwnR.there d h1 a ha
    · exact OwnL.there d h2 a ha
end
mutual
/-- frozen: it lies so for good -/
theorem OwnR.freeze : ∀ (d : Nat) {t : T} {v : V} {as : List Addr} {F' : Hp}, OwnR K F H d t v as → Same F F' → (∀ a ∈ as, F' a = H a) → Rep K F' t v
  | 0, t, v, as, _, h, e, _ => h.2.mono e
  | d + 1, .lst ts, v, as, _, h, e, k => by
    obtain ⟨b, xs, r, rfl, h1, h2, h3, rfl⟩ := h
    refine .lst (by rw [k b List.mem_cons_self]; exact h1) (OwnL.freeze d h3 e fun a ha => k a (List.mem_cons_of_mem _ ha))
  | d + 1, .non, v, as, _, h, e, _ => h.2.mono e
  | d + 1, .bl _, v, as, _, h, e, _ => h.2.mono e
  | d + 1, .int _, v, as, _, h, e, _ => h.2.mono e
  | d + 1, .str _, v, as, _, h, e, _ => h.2.mono e
  | d + 1, .tup _, v, as, _, h, e, _ => h.2.mono e
  | d + 1, .dct _ _, v, as, _, h, e, _ => h.2.mono e
  | d + 1, .set _, v, as, _, h, e, _ => h.2.mono e
theorem OwnL.freeze : ∀ (d : Nat) {ts : List T} {vs : List V} {as : List Addr} {F' : Hp}, OwnL (OwnR K F H d) ts vs as → Same F F' → (∀ a ∈ as, F' a = H a) → Reps K F' ts vs
  | d, [], [], _, _, _, _, _ => .nil
  | d, [], _ :: _, _, _, h, _, _ => h.elim
  | d, _ :: _, [], _, _, h, _, _ => h.elim
  | d, t :: ts, v :: vs, as, _, h, e, k => by
    obtain ⟨a1, a2, h1, h2, rfl⟩ := h
    exact .cons (OwnR.freeze d h1 e fun a ha => k a (List.mem_append_left _ ha)) (OwnL.freeze d h2 e fun a ha => k a (List.mem_append_right _ ha))
end
end

/-! ### entries: names and what is just reckoned -/
inductive Kd where
  | own (d : Nat)
  | io (d : Nat)
  /-- read alone -/
  | bor
  /-- the script -/
  | scr
  /-- the very object of the name of that slot -/
  | al (i : Nat)
  | un
  deriving DecidableEq
/-- kinds that names may have -/
def Kd.nm : Kd → Bool
  | .al _ => false
  | .un => false
  | _ => true
structure Ent where
  k : Kd
  t : T
  v : V
/-- a list that is read alone stands in what is kept -/
def Bor (K : PySem.W.Frag) (G F : Hp) : T → V → Prop
  | .lst ts, v => ∃ a xs, v = .ref a ∧ G a = some (.lst xs) ∧ Reps K F ts xs
  | t, v => Rep K F t v
def EntR (K : PySem.W.Frag) (G F H : Hp) : Kd → T → V → List Addr → Prop
  | .own d, t, v, al => OwnR K F H d t v al
  | .io d, t, v, al => OwnR K F H d t v al
  | .bor, t, v, al => al = [] ∧ Bor K G F t v
  | .scr, t, v, al => al = [] ∧ ∃ (a : Addr) (ns : List Int), t = .lst (ns.map T.int) ∧ v = .ref a ∧ SqL K G a (ns.map V.int)
  | .al _, _, _, al => al = []
  | .un, _, _, al => al = []
structure Lay (K : PySem.W.Frag) (G F H : Hp) (es : List Ent) : Prop where
  fh : Same F H
  gh : Same G H
  col : ∃ c : Addr → Option Nat, ∀ j e, es[j]? = some e → ∃ al, EntR K G F H e.k e.t e.v al ∧ al.Nodup ∧ ∀ a ∈ al, c a = some j ∧ G a = none
  ali : ∀ (j i : Nat) (t : T) (v : V), es[j]? = some ⟨Kd.al i, t, v⟩ → i < j ∧ ∃ k : Kd, es[i]? = some ⟨k, t, v⟩ ∧ k.nm = true

/-- what may be read of a value: the outermost list as it stands, what is in it for good -/
def Shal (K : PySem.W.Frag) (F H : Hp) : T → V → Prop
  | .lst ts, v => ∃ a xs, v = .ref a ∧ H a = some (.lst xs) ∧ Reps K F ts xs
  | t, v => Rep K F t v
section
variable {K : PySem.W.Frag} {G F F' H H' : Hp} {es : List Ent}
theorem Shal.of {t : T} {v : V} (h : Rep K F t v) (s : Same F H) : Shal K F H t v := by
  cases h with
  | lst a b => exact ⟨_, _, rfl, s _ _ a, b⟩
  | _ => first | exact .non | exact .bl _ | exact .int _ | (exact .str _ (by assumption) (by assumption)) | (exact .tup (by assumption) (by assumption))
theorem OwnR.shal {t : T} {v : V} {as : List Addr} (h : OwnR K F H 1 t v as) : Shal K F H t v := by
  cases t with
  | lst ts =>
    obtain ⟨a, xs, rfl, h1, h2, h3, _⟩ := h.one
    exact ⟨a, xs, rfl, h1, h3⟩
  | _ => exact h.2
theorem Bor.shal {t : T} {v : V} (h : Bor K G F t v) (s : Same G H) : Shal K F H t v := by
  cases t with
  | lst ts =>
    obtain ⟨a, xs, rfl, h1, h2⟩ := h
    exact ⟨a, xs, rfl, s _ _ h1, h2⟩
  | _ => exact h
theorem Bor.mono {t : T} {v : V} (h : Bor K G F t v) (e : Same F F') : Bor K G F' t v := by
  cases t with
  | lst ts =>
    obtain ⟨a, xs, rfl, h1, h2⟩ := h
    exact ⟨a, xs, rfl, h1, h2.mono e⟩
  | _ => exact Rep.mono e h
theorem Bor.of {t : T} {v : V} (h : Rep K F t v) (s : Same F G) : Bor K G F t v := by
  cases h with
  | lst a b => exact ⟨_, _, rfl, s _ _ a, b⟩
  | _ => first | exact .non | exact .bl _ | exact .int _ | (exact .str _ (by assumption) (by assumption)) | (exact .tup (by assumption) (by assumption))
theorem EntR.mono (e : Same F F') : ∀ {k : Kd} {t : T} {v : V} {al : List Addr}, EntR K G F H k t v al → (∀ a ∈ al, H' a = H a ∧ F' a = none) → EntR K G F' H' k t v al
  | .own d, _, _, _, h, q => OwnR.mono e d h q
  | .io d, _, _, _, h, q => OwnR.mono e d h q
  | .bor, _, _, _, h, _ => ⟨h.1, h.2.mono e⟩
  | .scr, _, _, _, h, _ => h
  | .al _, _, _, _, h, _ => h
  | .un, _, _, _, h, _ => h
theorem EntR.there : ∀ {k : Kd} {t : T} {v : V} {al : List Addr}, EntR K G F H k t v al → ∀ a ∈ al, (∃ xs, H a = some (.lst xs)) ∧ F a = none
  | .own d, _, _, _, h, a, ha => ⟨OwnR.there d h a ha, OwnR.none_at d h a ha⟩
  | .io d, _, _, _, h, a, ha => ⟨OwnR.there d h a ha, OwnR.none_at d h a ha⟩
  | .bor, _, _, _, h, a, ha => by rw [h.1] at ha; cases ha
  | .scr, _, _, _, h, a, ha => by rw [h.1] at ha; cases ha
  | .al _, _, _, _, h, a, ha => by
    have h : _ = [] := h
    rw [h] at ha; cases ha
  | .un, _, _, _, h, a, ha => by
    have h : _ = [] := h
    rw [h] at ha; cases ha

/-- the entry's relation as it stands -/
theorem Lay.ent (L : Lay K G F H es) {j : Nat} {e : Ent} (h : es[j]? = some e) : ∃ al, EntR K G F H e.k e.t e.v al :=
  let ⟨_, q⟩ := L.col
  let ⟨al, r, _⟩ := q j e h
  ⟨al, r⟩
theorem Lay.rep (L : Lay K G F H es) {j : Nat} {t : T} {v : V} (h : es[j]? = some ⟨.own 0, t, v⟩) : Rep K F t v := by
  obtain ⟨al, r⟩ := L.ent h
  exact (show OwnR K F H 0 t v al from r).2
/-- kinds that may be read -/
def Kd.reads : Kd → Bool
  | .own 0 => true
  | .own 1 => true
  | .io 1 => true
  | .io 0 => true
  | .bor => true
  | _ => false
theorem Lay.shal (L : Lay K G F H es) {j : Nat} {k : Kd} {t : T} {v : V} (h : es[j]? = some ⟨k, t, v⟩) (hk : k.reads = true) : Shal K F H t v := by
  obtain ⟨al, r⟩ := L.ent h
  cases k with
  | own d =>
    rcases d with _ | _ | d
    · exact Shal.of (show OwnR K F H 0 t v al from r).2 L.fh
    · exact OwnR.shal (show OwnR K F H 1 t v al from r)
    · cases hk
  | io d =>
    rcases d with _ | _ | d
    · exact Shal.of (show OwnR K F H 0 t v al from r).2 L.fh
    · exact OwnR.shal (show OwnR K F H 1 t v al from r)
    · cases hk
  | bor => exact Bor.shal (show al = [] ∧ Bor K G F t v from r).2 L.gh
  | scr => cases hk
  | al i => cases hk
  | un => cases hk

theorem getC {α : Type} {es : List α} {e e' : α} {j : Nat} (h : (es ++ [e])[j]? = some e') : (j < es.length ∧ es[j]? = some e') ∨ (j = es.length ∧ e' = e) := by
  by_cases hj : j < es.length
  · rw [List.getElem?_append_left hj] at h
    exact .inl ⟨hj, h⟩
  · rw [List.getElem?_append_right (by omega)] at h
    have h0 : j - es.length < 1 := by
      have := (List.getElem?_eq_some_iff.mp h).1
      simpa using this
    have e0 : j - es.length = 0 := by omega
    rw [e0] at h
    exact .inr ⟨by omega, (Option.some.inj h).symm⟩
theorem getL {α : Type} {es : List α} {e' : α} {j : Nat} (e : α) (h : es[j]? = some e') : (es ++ [e])[j]? = some e' := by
  rw [List.getElem?_append_left (List.getElem?_eq_some_iff.mp h).1]
  exact h
theorem lt_of_get {α : Type} {es : List α} {e : α} {j : Nat} (h : es[j]? = some e) : j < es.length := (List.getElem?_eq_some_iff.mp h).1

/-- the last entry is let go -/
theorem Lay.pop {e : Ent} (L : Lay K G F H (es ++ [e])) : Lay K G F H es := by
  obtain ⟨c, q⟩ := L.col
  refine ⟨L.fh, L.gh, ⟨c, fun j e' h => q j e' (getL e h)⟩, fun j i t v h => ?_⟩
  obtain ⟨hij, k, h2, h3⟩ := L.ali j i t v (getL e h)
  refine ⟨hij, k, ?_, h3⟩
  rwa [List.getElem?_append_left (Nat.lt_trans hij (lt_of_get h))] at h2
theorem Lay.pops {fs : List Ent} (L : Lay K G F H (es ++ fs)) : Lay K G F H es := by
  induction fs generalizing es with
  | nil => simpa using L
  | cons f fs ih =>
    have L' : Lay K G F H ((es ++ [f]) ++ fs) := by simpa using L
    exact (ih L').pop
/-- a value beside -/
theorem Lay.push {k : Kd} {t : T} {v : V} (L : Lay K G F H es) (h : EntR K G F H k t v []) (hk : ∀ i, k ≠ .al i) : Lay K G F H (es ++ [⟨k, t, v⟩]) := by
  obtain ⟨c, q⟩ := L.col
  refine ⟨L.fh, L.gh, ⟨c, fun j e' hj => ?_⟩, fun j i t' v' hj => ?_⟩
  · rcases getC hj with ⟨_, h1⟩ | ⟨_, rfl⟩
    · exact q j e' h1
    · exact ⟨[], h, List.nodup_nil, fun a ha => by cases ha⟩
  · rcases getC hj with ⟨_, h1⟩ | ⟨_, h1⟩
    · obtain ⟨hij, k', h2, h3⟩ := L.ali j i t' v' h1
      exact ⟨hij, k', getL _ h2, h3⟩
    · injection h1 with h1 _ _
      exact absurd h1.symm (hk i)
theorem Lay.pushV {t : T} {v : V} (L : Lay K G F H es) (h : Rep K F t v) : Lay K G F H (es ++ [⟨.own 0, t, v⟩]) := L.push (show OwnR K F H 0 t v [] from ⟨rfl, h⟩) fun _ z => by cases z
theorem Lay.pushN {t : T} {v : V} (d : Nat) (L : Lay K G F H es) (h : Rep K F t v) (hm : t.mutable = false) : Lay K G F H (es ++ [⟨.own d, t, v⟩]) := L.push (show OwnR K F H d t v [] from OwnR.same d h hm) fun _ z => by cases z
/-- the very object of a name -/
theorem Lay.pushA {i : Nat} {k : Kd} {t : T} {v : V} (L : Lay K G F H es) (h : es[i]? = some ⟨k, t, v⟩) (hk : k.nm = true) : Lay K G F H (es ++ [⟨.al i, t, v⟩]) := by
  obtain ⟨c, q⟩ := L.col
  refine ⟨L.fh, L.gh, ⟨c, fun j e' hj => ?_⟩, fun j i' t' v' hj => ?_⟩
  · rcases getC hj with ⟨_, h1⟩ | ⟨_, rfl⟩
    · exact q j e' h1
    · exact ⟨[], rfl, List.nodup_nil, fun a ha => by cases ha⟩
  · rcases getC hj with ⟨_, h1⟩ | ⟨hj', h1⟩
    · obtain ⟨hij, k', h2, h3⟩ := L.ali j i' t' v' h1
      exact ⟨hij, k', getL _ h2, h3⟩
    · injection h1 with h1 h2 h3
      injection h1 with h1
      subst h1 h2 h3
      exact ⟨by rw [hj']; exact lt_of_get h, k, getL _ h, hk⟩
/-- the heap goes on: what is owned stays, what is known for good grows -/
theorem Lay.grow (L : Lay K G F H es) (hF : Same F F') (hfh : Same F' H') (hgh : Same G H') (keep : ∀ a, G a = none → F a = none → (∃ xs, H a = some (.lst xs)) → H' a = H a ∧ F' a = none) : Lay K G F' H' es := by
  obtain ⟨c, q⟩ := L.col
  refine ⟨hfh, hgh, ⟨c, fun j e hj => ?_⟩, L.ali⟩
  obtain ⟨al, r, nd, hc⟩ := q j e hj
  exact ⟨al, r.mono hF fun a ha => keep a (hc a ha).2 (r.there a ha).2 (r.there a ha).1, nd, hc⟩
/-- a new list of one's own -/
theorem Lay.pushL {p : Addr} {ts : List T} {xs : List V} (L : Lay K G F H es) (hp : H p = none) (r : Reps K F ts xs) : Lay K G F (upd H p (.lst xs)) (es ++ [⟨.own 1, .lst ts, .ref p⟩]) := by
  have hFp : F p = none := L.fh.free hp
  have hGp : G p = none := L.gh.free hp
  have su : Same H (upd H p (.lst xs)) := fun b o e => by rw [upd_ne (ne_of_none e hp)]; exact e
  have L1 : Lay K G F (upd H p (.lst xs)) es := L.grow (Same.refl F) (L.fh.trans su) (L.gh.trans su) fun a _ hf ⟨ys, hy⟩ => ⟨by rw [upd_ne (ne_of_none hy hp)], hf⟩
  obtain ⟨c, q⟩ := L1.col
  have hc' : ∀ (j : Nat) (e : Ent), es[j]? = some e → ∀ al, EntR K G F H e.k e.t e.v al → p ∉ al := fun j e hj al r hm => by
    obtain ⟨⟨ys, hy⟩, _⟩ := r.there p hm
    rw [hp] at hy; cases hy
  obtain ⟨c0, q0⟩ := L.col
  refine ⟨L1.fh, L1.gh, ⟨fun a => if a = p then some es.length else c0 a, fun j e' hj => ?_⟩, fun j i t' v' hj => ?_⟩
  · rcases getC hj with ⟨hlt, h1⟩ | ⟨hj', rfl⟩
    · obtain ⟨al, r', nd, hc⟩ := q0 j e' h1
      refine ⟨al, r'.mono (Same.refl F) fun a ha => ⟨?_, (r'.there a ha).2⟩, nd, fun a ha => ?_⟩
      · have : a ≠ p := fun z => hc' j e' h1 al r' (z ▸ ha)
        rw [upd_ne this]
      · have : a ≠ p := fun z => hc' j e' h1 al r' (z ▸ ha)
        simp only [if_neg this]
        exact hc a ha
    · refine ⟨[p], OwnR.of_one upd_same hFp r, List.nodup_cons.mpr ⟨by simp, List.nodup_nil⟩, fun a ha => ?_⟩
      have : a = p := by simpa using ha
      subst this
      simp [hj', hGp]
  · rcases getC hj with ⟨_, h1⟩ | ⟨_, h1⟩
    · obtain ⟨hij, k', h2, h3⟩ := L.ali j i t' v' h1
      exact ⟨hij, k', getL _ h2, h3⟩
    · injection h1 with h1 _ _
      cases h1
/-- a new tuple -/
theorem Lay.newT {p : Addr} {xs : List V} (L : Lay K G F H es) (hp : H p = none) : Lay K G (upd F p (.tup xs)) (upd H p (.tup xs)) es ∧ Same F (upd F p (.tup xs)) := by
  have hFp : F p = none := L.fh.free hp
  have hGp : G p = none := L.gh.free hp
  have sf : Same F (upd F p (.tup xs)) := fun b o e => by rw [upd_ne (ne_of_none e hFp)]; exact e
  have sh : Same H (upd H p (.tup xs)) := fun b o e => by rw [upd_ne (ne_of_none e hp)]; exact e
  refine ⟨L.grow sf (fun b o e => ?_) (L.gh.trans sh) fun a _ hf ⟨ys, hy⟩ => ?_, sf⟩
  · by_cases hb : b = p
    · subst hb; rw [upd_same] at e ⊢; exact e
    · rw [upd_ne hb] at e ⊢; exact L.fh b o e
  · have : a ≠ p := ne_of_none hy hp
    rw [upd_ne this, upd_ne this]
    exact ⟨rfl, hf⟩
theorem Lay.pushT {p : Addr} {ts : List T} {xs : List V} (d : Nat) (L : Lay K G F H es) (hp : H p = none) (r : Reps K F ts xs) :
    Lay K G (upd F p (.tup xs)) (upd H p (.tup xs)) (es ++ [⟨.own d, .tup ts, .ref p⟩]) := by
  obtain ⟨L1, s1⟩ := L.newT (xs := xs) hp
  exact L1.pushN d (.tup (SqT.of upd_same) (r.mono s1)) rfl
/-- the last entry is frozen -/
theorem Lay.frz {d : Nat} {t : T} {v : V} (L : Lay K G F H (es ++ [⟨.own d, t, v⟩])) : ∃ F', Same F F' ∧ (∀ a, F' a ≠ none → F a ≠ none ∨ G a = none) ∧ Lay K G F' H (es ++ [⟨.own 0, t, v⟩]) := by
  obtain ⟨c, q⟩ := L.col
  obtain ⟨al, r, nd, hc⟩ := q es.length ⟨.own d, t, v⟩ (by simp)
  have r : OwnR K F H d t v al := r
  have sf : Same F (freeze F H al) := freeze_same fun a ha => OwnR.none_at d r a ha
  refine ⟨freeze F H al, sf, fun a ha => ?_, ?_⟩
  · by_cases hm : a ∈ al
    · exact .inr (hc a hm).2
    · rw [freeze_out hm] at ha; exact .inl ha
  · have rr : Rep K (freeze F H al) t v := OwnR.freeze d r sf fun a ha => by unfold freeze; rw [if_pos ha]
    have L0 : Lay K G (freeze F H al) H es := by
      refine ⟨freeze_sub L.fh, L.gh, ⟨c, fun j e hj => ?_⟩, L.pop.ali⟩
      obtain ⟨al', r', nd', hc'⟩ := q j e (getL _ hj)
      refine ⟨al', r'.mono sf fun a ha => ⟨rfl, ?_⟩, nd', hc'⟩
      have hn : a ∉ al := fun z => by
        have e1 := (hc a z).1
        have e2 := (hc' a ha).1
        rw [e1] at e2
        injection e2 with e2
        exact absurd (lt_of_get hj) (by omega)
      rw [freeze_out hn]; exact (r'.there a ha).2
    exact L0.pushV rr

/-- no other name of the very object of slot i -/
def NoAl (es : List Ent) (i : Nat) : Prop := ∀ (j : Nat) (t : T) (v : V), es[j]? ≠ some ⟨.al i, t, v⟩
theorem getS {α : Type} {es : List α} {e e' : α} {i j : Nat} (h : (es.set i e)[j]? = some e') : (j = i ∧ i < es.length ∧ e' = e) ∨ (j ≠ i ∧ es[j]? = some e') := by
  by_cases hj : j = i
  · subst hj
    have hl : j < es.length := by have := lt_of_get h; simpa using this
    rw [List.getElem?_set_self hl] at h
    exact .inl ⟨rfl, hl, (Option.some.inj h).symm⟩
  · rw [List.getElem?_set_ne (Ne.symm hj)] at h
    exact .inr ⟨hj, h⟩
theorem getS_ne {α : Type} {es : List α} {e e' : α} {i j : Nat} (hj : j ≠ i) (h : es[j]? = some e') : (es.set i e)[j]? = some e' := by
  rw [List.getElem?_set_ne (Ne.symm hj)]; exact h
/-- the last entry is bound to a name -/
theorem Lay.bind {e : Ent} {i : Nat} (L : Lay K G F H (es ++ [e])) (na : NoAl es i) (hk : ∀ i, e.k ≠ .al i) : Lay K G F H (es.set i e) := by
  obtain ⟨c, q⟩ := L.col
  refine ⟨L.fh, L.gh, ⟨fun a => if c a = some i then none else if c a = some es.length then some i else c a, fun j e' hj => ?_⟩, fun j i' t v hj => ?_⟩
  · rcases getS hj with ⟨rfl, hl, rfl⟩ | ⟨hne, h1⟩
    · obtain ⟨al, r, nd, hc⟩ := q es.length e' (by simp)
      refine ⟨al, r, nd, fun a ha => ⟨?_, (hc a ha).2⟩⟩
      have e1 := (hc a ha).1
      have : ¬ c a = some j := by rw [e1]; intro z; injection z with z; omega
      simp only [if_neg this, if_pos e1]
    · obtain ⟨al, r, nd, hc⟩ := q j e' (getL e h1)
      refine ⟨al, r, nd, fun a ha => ⟨?_, (hc a ha).2⟩⟩
      have e1 := (hc a ha).1
      have n1 : ¬ c a = some i := by rw [e1]; intro z; injection z with z; exact hne z
      have n2 : ¬ c a = some es.length := by
        rw [e1]; intro z; injection z with z
        exact absurd (lt_of_get h1) (by omega)
      show (if c a = some i then none else if c a = some es.length then some i else c a) = some j
      rw [if_neg n1, if_neg n2]
      exact e1
  · rcases getS hj with ⟨rfl, hl, h1⟩ | ⟨hne, h1⟩
    · exact absurd (congrArg Ent.k h1).symm (hk i')
    · obtain ⟨hij, k, h2, h3⟩ := L.ali j i' t v (getL e h1)
      have hlt : i' < es.length := Nat.lt_trans hij (lt_of_get h1)
      rw [List.getElem?_append_left hlt] at h2
      refine ⟨hij, k, getS_ne ?_ h2, h3⟩
      rintro rfl
      exact na j t v h1
/-- a name is forgotten -/
theorem Lay.un {i : Nat} {t : T} {v : V} (L : Lay K G F H es) (na : NoAl es i) : Lay K G F H (es.set i ⟨.un, t, v⟩) :=
  (L.push (k := .un) (t := t) (v := v) rfl fun _ z => by cases z).bind na fun _ z => by cases z
/-- the list of an entry is changed in place -/
theorem Lay.chg {i : Nat} {k : Kd} {ts ts' : List T} {v : V} (L : Lay K G F H es) (h : es[i]? = some ⟨k, .lst ts, v⟩) (hk : k = .own 1 ∨ k = .io 1) (na : NoAl es i) :
    ∃ a xs, v = .ref a ∧ H a = some (.lst xs) ∧ F a = none ∧ G a = none ∧ Reps K F ts xs ∧ ∀ xs', Reps K F ts' xs' → Lay K G F (upd H a (.lst xs')) (es.set i ⟨k, .lst ts', v⟩) := by
  obtain ⟨c, q⟩ := L.col
  obtain ⟨al, r, nd, hc⟩ := q i _ h
  have r1 : OwnR K F H 1 (.lst ts) v al := by rcases hk with rfl | rfl <;> exact r
  obtain ⟨a, xs, rfl, h1, h2, h3, rfl⟩ := r1.one
  obtain ⟨ca, ga⟩ := hc a List.mem_cons_self
  refine ⟨a, xs, rfl, h1, h2, ga, h3, fun xs' r' => ?_⟩
  refine ⟨fun b o e => ?_, fun b o e => ?_, ⟨c, fun j e' hj => ?_⟩, fun j i' t v hj => ?_⟩
  · have : b ≠ a := fun z => by rw [z, h2] at e; cases e
    rw [upd_ne this]; exact L.fh b o e
  · have : b ≠ a := fun z => by rw [z, ga] at e; cases e
    rw [upd_ne this]; exact L.gh b o e
  · rcases getS hj with ⟨rfl, hl, rfl⟩ | ⟨hne, h4⟩
    · refine ⟨[a], ?_, List.nodup_cons.mpr ⟨by simp, List.nodup_nil⟩, fun b hb => hc b hb⟩
      have z : OwnR K F (upd H a (.lst xs')) 1 (.lst ts') (.ref a) [a] := OwnR.of_one upd_same h2 r'
      rcases hk with rfl | rfl <;> exact z
    · obtain ⟨al', r2, nd', hc'⟩ := q j e' h4
      refine ⟨al', r2.mono (Same.refl F) fun b hb => ⟨?_, (r2.there b hb).2⟩, nd', hc'⟩
      have : b ≠ a := by
        rintro rfl
        have e1 := (hc' b hb).1
        rw [ca] at e1
        injection e1 with e1
        exact hne e1.symm
      rw [upd_ne this]
  · rcases getS hj with ⟨rfl, hl, h4⟩ | ⟨hne, h4⟩
    · have h5 := congrArg Ent.k h4
      rcases hk with rfl | rfl <;> cases h5
    · obtain ⟨hij, k', h5, h6⟩ := L.ali j i' t v h4
      refine ⟨hij, k', getS_ne ?_ h5, h6⟩
      rintro rfl
      exact na j t v h4
end
end Pv
end

section
set_option Elab.async false
set_option linter.all false
set_option maxRecDepth 100000
/-! PvD: the state of a def that runs; the readings of expressions by the evaluator. -/
namespace Pv
open PySem PySem.Spec PyProof.Rows L2

/-! ### what an expression may change in place -/
/-- handed in where it is changed -/
def tchA (i : Nat) : Bool → List Ir → Bool
  | true, .nm k :: _ => i == k
  | _, _ => false
mutual
def tchE (io : Nat → Nat → Bool) (i : Nat) : Ir → Bool
  | .nm _ => false
  | .con _ => false
  | .bin _ a b => tchE io i a || tchE io i b
  | .neg a => tchE io i a
  | .cmp _ a b => tchE io i a || tchE io i b
  | .cmp2 _ _ a b d => tchE io i a || tchE io i b || tchE io i d
  | .and a b => tchE io i a || tchE io i b
  | .or a b => tchE io i a || tchE io i b
  | .not a => tchE io i a
  | .ite c a b => tchE io i c || tchE io i a || tchE io i b
  | .tup es => tchEs io i es
  | .lst es => tchEs io i es
  | .ix a b => tchE io i a || tchE io i b
  | .sl a lo hi => tchE io i a || tchO io i lo || tchO io i hi
  | .rev a => tchE io i a
  | .call f m as => tchEs io i as || tchA i m as
  | .callk _ as _ => tchEs io i as
  | .bi _ as => tchEs io i as
  | .lrg a => tchE io i a
  | .lc p it cs g e => (p.slots ++ Cl.slots g).contains i || tchI io i it || tchEs io i cs || tchG io i g || tchE io i e
  | .sc p it cs g e => (p.slots ++ Cl.slots g).contains i || tchI io i it || tchEs io i cs || tchG io i g || tchE io i e
  | .pop j p a => i == j || tchO io i p || tchO io i a
  | .app j p a => i == j || tchO io i p || tchE io i a
  | .rem j a => i == j || tchE io i a
  | .ixs _ _ => false
  | .dne _ _ => false
def tchEs (io : Nat → Nat → Bool) (i : Nat) : List Ir → Bool
  | [] => false
  | e :: es => tchE io i e || tchEs io i es
def tchO (io : Nat → Nat → Bool) (i : Nat) : Option Ir → Bool
  | none => false
  | some e => tchE io i e
def tchI (io : Nat → Nat → Bool) (i : Nat) : Wk → Bool
  | .ex e => tchE io i e
  | .range a => tchE io i a
  | .range2 a b => tchE io i a || tchE io i b
  | .enum e => tchE io i e
  | .zip a b => tchE io i a || tchE io i b
def tchG (io : Nat → Nat → Bool) (i : Nat) : List Cl → Bool
  | [] => false
  | .mk _ it cs :: gs => tchI io i it || tchEs io i cs || tchG io i gs
end

/-- a def that runs: what is kept, what was frozen at its start, what calls do, which parameters of which def are changed in place -/
structure Act where
  K : PySem.W.Frag
  G : Hp
  F0 : Hp
  C : Cal
  io : Nat → Nat → Bool
  /-- the parameters that are changed in place: their objects -/
  iv : List (Option (Nat × V))

def slotsOf : List Kd → Env → L2.St → List Ent
  | k :: ks, o :: os, s :: ss => (match o, s with | some t, some v => ⟨k, t, v⟩ | _, _ => ⟨.un, .non, .non⟩) :: slotsOf ks os ss
  | _, _, _ => []
theorem slotsOf_length : ∀ {kd : List Kd} {env : Env} {σ : L2.St}, env.length = σ.length → kd.length = σ.length → (slotsOf kd env σ).length = σ.length
  | [], [], [], _, _ => rfl
  | k :: ks, o :: os, s :: ss, h1, h2 => by
    show (slotsOf ks os ss).length + 1 = ss.length + 1
    rw [slotsOf_length (by simpa using h1) (by simpa using h2)]
  | [], _ :: _, _, h1, h2 => by simp at h1 h2; omega
  | [], [], _ :: _, h1, h2 => by simp at h1
  | _ :: _, [], _, h1, h2 => by simp at h1 h2; omega
  | _ :: _, _ :: _, [], h1, h2 => by simp at h1
theorem slotsOf_get : ∀ {kd : List Kd} {env : Env} {σ : L2.St} {i : Nat} {k : Kd} {t : T} {v : V}, kd[i]? = some k → env[i]? = some (some t) → σ[i]? = some (some v) → (slotsOf kd env σ)[i]? = some ⟨k, t, v⟩
  | [], _, _, _, _, _, _, h, _, _ => by simp at h
  | _ :: _, [], _, _, _, _, _, _, h, _ => by simp at h
  | _ :: _, _ :: _, [], _, _, _, _, _, _, h => by simp at h
  | k :: ks, o :: os, s :: ss, 0, k', t, v, h1, h2, h3 => by
    simp at h1 h2 h3
    subst h1 h2 h3
    rfl
  | k :: ks, o :: os, s :: ss, i + 1, k', t, v, h1, h2, h3 => by
    show (slotsOf ks os ss)[i]? = _
    exact slotsOf_get (by simpa using h1) (by simpa using h2) (by simpa using h3)
theorem slotsOf_inv : ∀ {kd : List Kd} {env : Env} {σ : L2.St} {i : Nat} {e : Ent}, (slotsOf kd env σ)[i]? = some e → (e = ⟨.un, .non, .non⟩) ∨ (kd[i]? = some e.k ∧ env[i]? = some (some e.t) ∧ σ[i]? = some (some e.v))
  | [], _, _, i, e, h => by
    have h : ([] : List Ent)[i]? = some e := h
    simp at h
  | _ :: _, [], _, i, e, h => by
    have h : ([] : List Ent)[i]? = some e := h
    simp at h
  | _ :: _, _ :: _, [], i, e, h => by
    have h : ([] : List Ent)[i]? = some e := h
    simp at h
  | k :: ks, none :: os, s :: ss, 0, e, h => .inl (Option.some.inj h).symm
  | k :: ks, some t :: os, none :: ss, 0, e, h => .inl (Option.some.inj h).symm
  | k :: ks, some t :: os, some v :: ss, 0, e, h => by
    have h : some (⟨k, t, v⟩ : Ent) = some e := h
    cases h
    exact .inr ⟨rfl, rfl, rfl⟩
  | k :: ks, o :: os, s :: ss, i + 1, e, h => by
    have h : (slotsOf ks os ss)[i]? = some e := h
    rcases slotsOf_inv h with h | ⟨h1, h2, h3⟩
    · exact .inl h
    · exact .inr ⟨by rw [List.getElem?_cons_succ]; exact h1, by rw [List.getElem?_cons_succ]; exact h2, by rw [List.getElem?_cons_succ]; exact h3⟩
theorem slotsOf_set (k : Kd) (t : T) (v : V) : ∀ {kd : List Kd} {env : Env} {σ : L2.St} {i : Nat}, slotsOf (kd.set i k) (env.set i (some t)) (σ.set i (some v)) = (slotsOf kd env σ).set i ⟨k, t, v⟩
  | [], _, _, i => rfl
  | _ :: _, [], _, i => by cases i <;> rfl
  | _ :: _, _ :: _, [], i => by cases i <;> rfl
  | _ :: _, _ :: _, _ :: _, 0 => rfl
  | k' :: ks, o :: os, s :: ss, i + 1 => by
    show _ :: slotsOf (ks.set i k) (os.set i (some t)) (ss.set i (some v)) = _ :: (slotsOf ks os ss).set i _
    rw [slotsOf_set k t v]
theorem set_same {α : Type} : ∀ {l : List α} {i : Nat} {x : α}, l[i]? = some x → l.set i x = l
  | [], _, _, h => by simp at h
  | _ :: _, 0, _, h => by simp at h; subst h; rfl
  | y :: l, i + 1, x, h => by
    show y :: l.set i x = y :: l
    rw [set_same (by simpa using h)]

structure SR (A : Act) (kd : List Kd) (F H : Hp) (env : Env) (σ : L2.St) (tm : List Ent) : Prop where
  le : env.length = σ.length
  lk : kd.length = σ.length
  nal : ∀ k ∈ kd, k.nm = true
  bnd : ∀ (i : Nat) (t : T), env[i]? = some (some t) → ∃ v, σ[i]? = some (some v)
  lay : Lay A.K A.G F H (slotsOf kd env σ ++ tm)
  gr : ∀ a, F a ≠ none → A.F0 a ≠ none ∨ A.G a = none
  als : ∀ e ∈ tm, ∀ i, e.k = .al i → i < σ.length
  iov : ∀ (i d : Nat) (v : V), A.iv[i]? = some (some (d, v)) → σ[i]? = some (some v) ∧ kd[i]? = some (.io d)

section
variable {A : Act} {kd : List Kd} {F F' H H' : Hp} {env : Env} {σ : L2.St} {tm es : List Ent}
theorem SR.slen (R : SR A kd F H env σ tm) : (slotsOf kd env σ).length = σ.length := slotsOf_length R.le R.lk
theorem getV_some {env : Env} {i : Nat} {t : T} (h : getV env i = some t) : env[i]? = some (some t) := by
  unfold getV at h
  cases e : env[i]? with
  | none => rw [e] at h; cases h
  | some o => rw [e] at h; simpa using h
theorem getV_of {env : Env} {i : Nat} {t : T} (h : env[i]? = some (some t)) : getV env i = some t := by
  unfold getV
  rw [h]; rfl
/-- the entry of a name -/
theorem SR.slot (R : SR A kd F H env σ tm) {i : Nat} {t : T} (h : getV env i = some t) : ∃ k v, kd[i]? = some k ∧ σ[i]? = some (some v) ∧ (slotsOf kd env σ ++ tm)[i]? = some ⟨k, t, v⟩ ∧ k.nm = true := by
  have h := getV_some h
  obtain ⟨v, hv⟩ := R.bnd i t h
  have hl : i < kd.length := by rw [R.lk]; exact lt_of_get hv
  have hk : kd[i]? = some kd[i] := List.getElem?_eq_getElem hl
  refine ⟨kd[i], v, hk, hv, ?_, R.nal _ (List.getElem_mem hl)⟩
  have q := slotsOf_get hk h hv
  rw [List.getElem?_append_left (lt_of_get q)]
  exact q
theorem SR.pops (R : SR A kd F H env σ (tm ++ es)) : SR A kd F H env σ tm := ⟨R.le, R.lk, R.nal, R.bnd, by
  have L := R.lay
  rw [← List.append_assoc] at L
  exact L.pops, R.gr, fun e he i h => R.als e (List.mem_append_left _ he) i h, R.iov⟩
theorem SR.pushes (R : SR A kd F H env σ tm) {e : Ent} (hg : ∀ a, F' a ≠ none → F a ≠ none ∨ A.G a = none) (L : Lay A.K A.G F' H' ((slotsOf kd env σ ++ tm) ++ [e])) (hk : ∀ i, e.k = .al i → i < σ.length := by intro _ z; cases z) : SR A kd F' H' env σ (tm ++ [e]) := ⟨R.le, R.lk, R.nal, R.bnd, by
  rw [← List.append_assoc]; exact L, fun a ha => by
    rcases hg a ha with h | h
    · exact R.gr a h
    · exact .inr h, fun e' he i h => by
    rcases List.mem_append.mp he with he | he
    · exact R.als e' he i h
    · have : e' = e := by simpa using he
      subst this
      exact hk i h, R.iov⟩
theorem SR.lay1 (R : SR A kd F H env σ (tm ++ es)) : Lay A.K A.G F H ((slotsOf kd env σ ++ tm) ++ es) := by
  rw [List.append_assoc]; exact R.lay

/-- what an operation may give: nothing new that may change, a new list, a new tuple -/
def OutF (K : PySem.W.Frag) (F H : Hp) (z : T) (v : V) (H' : Hp) : Prop :=
  (H' = H ∧ Rep K F z v ∧ z.mutable = false) ∨ (∃ p xs ts, z = .lst ts ∧ v = .ref p ∧ H p = none ∧ H' = upd H p (.lst xs) ∧ Reps K F ts xs) ∨
    ∃ p xs ts, z = .tup ts ∧ v = .ref p ∧ H p = none ∧ H' = upd H p (.tup xs) ∧ Reps K F ts xs
/-- .. or what is frozen -/
def Out (K : PySem.W.Frag) (F H : Hp) (z : T) (v : V) (H' : Hp) : Prop := OutF K F H z v H' ∨ (H' = H ∧ Rep K F z v)

theorem same_upd {H : Hp} {p : Addr} {o : HO} (h : H p = none) : Same H (upd H p o) := fun b x e => by
  rw [upd_ne (ne_of_none e h)]
  exact e
theorem SR.fin1 {z : T} {v : V} (R : SR A kd F H env σ tm) (o : OutF A.K F H z v H') : ∃ F', SR A kd F' H' env σ (tm ++ [⟨.own 1, z, v⟩]) ∧ Same F F' := by
  rcases o with ⟨rfl, r, hm⟩ | ⟨p, xs, ts, rfl, rfl, hp, rfl, r⟩ | ⟨p, xs, ts, rfl, rfl, hp, rfl, r⟩
  · exact ⟨F, R.pushes (fun _ h => .inl h) (R.lay.pushN 1 r hm), Same.refl F⟩
  · exact ⟨F, R.pushes (fun _ h => .inl h) (R.lay.pushL hp r), Same.refl F⟩
  · refine ⟨_, R.pushes (fun a h => ?_) (R.lay.pushT 1 hp r), same_upd (R.lay.fh.free hp)⟩
    by_cases ha : a = p
    · rw [ha]; exact .inr (R.lay.gh.free hp)
    · rw [upd_ne ha] at h; exact .inl h
theorem SR.frz {d : Nat} {z : T} {v : V} (R : SR A kd F H env σ (tm ++ [⟨.own d, z, v⟩])) : ∃ F', SR A kd F' H env σ (tm ++ [⟨.own 0, z, v⟩]) ∧ Same F F' := by
  obtain ⟨F', s, g, L⟩ := R.lay1.frz
  exact ⟨F', R.pops.pushes g L, s⟩
theorem SR.fin0 {z : T} {v : V} (R : SR A kd F H env σ tm) (o : Out A.K F H z v H') : ∃ F', SR A kd F' H' env σ (tm ++ [⟨.own 0, z, v⟩]) ∧ Same F F' := by
  rcases o with o | ⟨rfl, r⟩
  · obtain ⟨F1, R1, s1⟩ := R.fin1 o
    obtain ⟨F2, R2, s2⟩ := R1.frz
    exact ⟨F2, R2, s1.trans s2⟩
  · exact ⟨F, R.pushes (fun _ h => .inl h) (R.lay.pushV r), Same.refl F⟩
end

/-! ### the readings -/
def NoT (A : Act) (x : Ir) (tm : List Ent) : Prop := ∀ e ∈ tm, ∀ i, e.k = .al i → tchE A.io i x = false
def NoTs (A : Act) (xs : List Ir) (tm : List Ent) : Prop := ∀ e ∈ tm, ∀ i, e.k = .al i → tchEs A.io i xs = false
/-- an operand: its value, or the very object of a name -/
def KR (kd : List Kd) (x : Ir) (k : Kd) : Prop := k = .own 0 ∨ ∃ i, x = .nm i ∧ k = .al i ∧ kd[i]? ≠ some (.own 0)
section
variable (A : Act) (kd : List Kd)
/-- its value is read there and then -/
def tR (x : Ir) : TE := fun σ H Q => ∃ F env tm t env', SR A kd F H env σ tm ∧ NoT A x tm ∧ evE A.C x env = some (t, env') ∧ ∀ k v F' H', KR kd x k → SR A kd F' H' env' σ (tm ++ [⟨k, t, v⟩]) → Same F F' → Q v H'
/-- its value is new down to the depth d -/
def tF (d : Nat) (x : Ir) : TE := fun σ H Q => ∃ F env tm t env', SR A kd F H env σ tm ∧ NoT A x tm ∧ evE A.C x env = some (t, env') ∧ ∀ v F' H', SR A kd F' H' env' σ (tm ++ [⟨.own d, t, v⟩]) → Same F F' → Q v H'
/-- as a test -/
def tT (x : Ir) : TT := fun σ H Q => ∃ F env tm t env', SR A kd F H env σ tm ∧ NoT A x tm ∧ evE A.C x env = some (t, env') ∧ ∀ F' H', SR A kd F' H' env' σ tm → Same F F' → Q (truth t) H'
inductive KRs : List Ir → List T → List Ent → Prop
  | nil : KRs [] [] []
  | cons {x : Ir} {xs : List Ir} {t : T} {ts : List T} {k : Kd} {v : V} {es : List Ent} : KR kd x k → KRs xs ts es → KRs (x :: xs) (t :: ts) (⟨k, t, v⟩ :: es)
def tRs (xs : List Ir) : TA := fun σ H Q => ∃ F env tm ts env', SR A kd F H env σ tm ∧ NoTs A xs tm ∧ evEs A.C xs env = some (ts, env') ∧ ∀ es F' H', KRs kd xs ts es → SR A kd F' H' env' σ (tm ++ es) → Same F F' → Q (es.map (·.v)) H'
end
theorem PE.imp {X : Cx} {e : Expr} {t t' : TE} (h : PE X e t) (i : ∀ σ H Q, t' σ H Q → t σ H Q) : PE X e t' := ⟨fun pins s σ H Q I q => h.run pins s σ H Q I (i σ H Q q)⟩
theorem PT.imp {X : Cx} {e : Expr} {t t' : TT} (h : PT X e t) (i : ∀ σ H Q, t' σ H Q → t σ H Q) : PT X e t' := ⟨fun pins s σ H Q I q => h.run pins s σ H Q I (i σ H Q q)⟩
theorem PA.imp {X : Cx} {e : List Expr} {t t' : TA} (h : PA X e t) (i : ∀ σ H Q, t' σ H Q → t σ H Q) : PA X e t' := ⟨fun pos pins s σ H Q I q => h.run pos pins s σ H Q I (i σ H Q q)⟩

/-- kinds of a name that may be read -/
def rdK (kd : List Kd) : Ir → Bool
  | .nm i => match kd[i]? with | some k => k.reads | none => false
  | _ => true
/-- the object of the name a stays as it is while the further ones are reckoned -/
def stK (io : Nat → Nat → Bool) (kd : List Kd) (a : Ir) (xs : List Ir) : Bool :=
  match a with
  | .nm i => (match kd[i]? with | some (.own 0) => true | _ => false) || !tchEs io i xs
  | _ => true

section
variable {A : Act} {kd : List Kd} {X : Cx}
theorem tF_tR {d : Nat} {x : Ir} {e : Expr} (h : PE X e (tF A kd d x)) : PE X e (tR A kd x) := PE.imp h fun σ H Q ⟨F, env, tm, t, env', R, n, ev, q⟩ => ⟨F, env, tm, t, env', R, n, ev, fun v F1 H1 R1 s1 => by
  obtain ⟨F2, R2, s2⟩ := R1.frz
  exact q (.own 0) v F2 H1 (.inl rfl) R2 (s1.trans s2)⟩
/-- where no name is meant, or one of a value: the value is frozen -/
theorem tR_tF {x : Ir} {e : Expr} (h : PE X e (tR A kd x)) (hx : ∀ i, x = .nm i → kd[i]? = some (.own 0)) : PE X e (tF A kd 0 x) := PE.imp h fun σ H Q ⟨F, env, tm, t, env', R, n, ev, q⟩ => ⟨F, env, tm, t, env', R, n, ev, fun k v F1 H1 kr R1 s1 => by
  rcases kr with rfl | ⟨i, e1, _, e2⟩
  · exact q v F1 H1 R1 s1
  · exact absurd (hx i e1) e2⟩
theorem SR.shalR {F H : Hp} {env : Env} {σ : L2.St} {tm : List Ent} {x : Ir} {k : Kd} {t : T} {v : V} (R : SR A kd F H env σ tm) {j : Nat} (h : tm[j]? = some ⟨k, t, v⟩) (kr : KR kd x k) (rd : rdK kd x = true) : Shal A.K F H t v := by
  have h1 : (slotsOf kd env σ ++ tm)[(slotsOf kd env σ).length + j]? = some ⟨k, t, v⟩ := by
    rw [List.getElem?_append_right (by omega)]
    rw [show (slotsOf kd env σ).length + j - (slotsOf kd env σ).length = j by omega]
    exact h
  rcases kr with rfl | ⟨i, rfl, rfl, _⟩
  · exact R.lay.shal h1 rfl
  · obtain ⟨_, k', h2, h3⟩ := R.lay.ali _ i t v h1
    have hi : i < (slotsOf kd env σ).length := by
      have rd : (match kd[i]? with | some k => k.reads | none => false) = true := rd
      cases e : kd[i]? with
      | none => rw [e] at rd; cases rd
      | some q => rw [R.slen, ← R.lk]; exact lt_of_get e
    have h4 := h2
    rw [List.getElem?_append_left hi] at h4
    have hr : k'.reads = true := by
      rcases slotsOf_inv h4 with e | ⟨e, _, _⟩
      · have e := congrArg Ent.k e
        have e : k' = .un := e
        subst e
        cases h3
      · have rd : (match kd[i]? with | some k => k.reads | none => false) = true := rd
        rw [e] at rd; exact rd
    exact R.lay.shal h2 hr
end
end Pv
end

section
set_option Elab.async false
set_option linter.all false
set_option maxRecDepth 100000
/-! PvE: names, constants, argument lists, operators by their readings. -/
namespace Pv
open PySem PySem.Spec PyProof.Rows L2

section
variable {A : Act} {kd : List Kd} {X : Cx}
theorem evE_nm {C : Cal} {i : Nat} {env env' : Env} {t : T} (h : evE C (.nm i) env = some (t, env')) : getV env i = some t ∧ env' = env := by
  unfold evE at h
  cases e : getV env i with
  | none => rw [e] at h; cases h
  | some u => rw [e] at h; cases h; exact ⟨rfl, rfl⟩
/-- a name -/
theorem s_nm {i : Nat} {x : Str} {pos : Pos} (hN : X.N[i]? = some x) (hv : Vis X.env.scope x) (hd : (x == ("__debug__" : Str)) = false) (hcd : (x == ("__classdict__" : Str)) = false) : PE X (.Name x pos) (tR A kd (.nm i)) :=
  PE.imp (pe_var (i := i) hN hv hd hcd) fun σ H Q ⟨F, env, tm, t, env', R, n, ev, q⟩ => by
    obtain ⟨h1, rfl⟩ := evE_nm ev
    obtain ⟨k, v, hk, hs, he, hn⟩ := R.slot h1
    refine ⟨v, hs, ?_⟩
    by_cases h0 : k = .own 0
    · subst h0
      exact q (.own 0) v F H (.inl rfl) (R.pushes (fun _ h => .inl h) (R.lay.pushV (R.lay.rep he))) (Same.refl F)
    · refine q (.al i) v F H (.inr ⟨i, rfl, rfl, ?_⟩) (R.pushes (fun _ h => .inl h) (R.lay.pushA he hn) (fun j z => by cases z; exact lt_of_get hs)) (Same.refl F)
      rw [hk]; intro z; injection z with z; exact h0 z
theorem evE_con {C : Cal} {u t : T} {env env' : Env} (h : evE C (.con u) env = some (t, env')) : t = u ∧ env' = env := by
  unfold evE at h
  cases h
  exact ⟨rfl, rfl⟩
/-- a constant -/
theorem s_con {u : T} {v : V} {e : Expr} (he : PE X e (tC v)) (r : ∀ F, Rep A.K F u v) (hm : u.mutable = false) : PE X e (tF A kd 1 (.con u)) :=
  PE.imp he fun σ H Q ⟨F, env, tm, t, env', R, n, ev, q⟩ => by
    obtain ⟨rfl, rfl⟩ := evE_con ev
    obtain ⟨F', R', s'⟩ := R.fin1 (.inl ⟨rfl, r F, hm⟩)
    exact q v F' H R' s'

/-! ### argument lists -/
theorem NoT.of {x : Ir} {xs : List Ir} {tm : List Ent} (n : NoTs A (x :: xs) tm) : NoT A x tm := fun e he i h => by
  have z : (tchE A.io i x || tchEs A.io i xs) = false := n e he i h
  exact (Bool.or_eq_false_iff.mp z).1
theorem NoTs.tail {x : Ir} {xs : List Ir} {tm : List Ent} (n : NoTs A (x :: xs) tm) : NoTs A xs tm := fun e he i h => by
  have z : (tchE A.io i x || tchEs A.io i xs) = false := n e he i h
  exact (Bool.or_eq_false_iff.mp z).2
/-- behind an operand that stays as it is -/
theorem NoTs.on {x : Ir} {xs : List Ir} {tm : List Ent} {k : Kd} {t : T} {v : V} (n : NoTs A xs tm) (kr : KR kd x k) (st : stK A.io kd x xs = true) : NoTs A xs (tm ++ [⟨k, t, v⟩]) := fun e he i h => by
  rcases List.mem_append.mp he with he | he
  · exact n e he i h
  · have e1 : e = ⟨k, t, v⟩ := by simpa using he
    subst e1
    rcases kr with rfl | ⟨j, rfl, rfl, hj⟩
    · cases h
    · injection h with h
      subst h
      have st : ((match kd[j]? with | some (.own 0) => true | _ => false) || !tchEs A.io j xs) = true := st
      rcases Bool.or_eq_true_iff.mp st with z | z
      · split at z
        · exact absurd (by assumption) hj
        · cases z
      · simpa using z
theorem NoT.on1 {x y : Ir} {tm : List Ent} {k : Kd} {t : T} {v : V} (n : NoT A y tm) (kr : KR kd x k) (st : stK A.io kd x [y] = true) : NoT A y (tm ++ [⟨k, t, v⟩]) := by
  have n' : NoTs A [y] tm := fun e he i h => by
    show (tchE A.io i y || false) = false
    rw [Bool.or_false]; exact n e he i h
  exact NoT.of (NoTs.on (t := t) (v := v) n' kr st)
theorem KRs.append_get {xs : List Ir} {ts : List T} {es : List Ent} (k : KRs kd xs ts es) : ∀ {j : Nat} {t : T}, ts[j]? = some t → ∃ x kk v, xs[j]? = some x ∧ es[j]? = some ⟨kk, t, v⟩ ∧ KR kd x kk := by
  induction k with
  | nil => intro j t h; simp at h
  | @cons x xs t ts kk v es h1 h2 ih =>
    intro j t' h
    cases j with
    | zero =>
      simp at h
      subst h
      exact ⟨x, kk, v, rfl, rfl, h1⟩
    | succ j =>
      obtain ⟨x', kk', v', a, b, c⟩ := ih (by simpa using h)
      exact ⟨x', kk', v', by simpa using a, by simpa using b, c⟩
theorem KRs.len {xs : List Ir} {ts : List T} {es : List Ent} (k : KRs kd xs ts es) : xs.length = es.length ∧ ts.length = es.length := by
  induction k with
  | nil => exact ⟨rfl, rfl⟩
  | cons _ _ ih => exact ⟨congrArg (· + 1) ih.1, congrArg (· + 1) ih.2⟩
theorem a_nil : PA X [] (tRs A kd []) := PA.imp pa_nil fun σ H Q ⟨F, env, tm, ts, env', R, n, ev, q⟩ => by
  have ev : some (([] : List T), env) = some (ts, env') := ev
  cases ev
  exact q [] F H .nil (by rw [List.append_nil]; exact R) (Same.refl F)
theorem evEs_cons {C : Cal} {x : Ir} {xs : List Ir} {env env' : Env} {us : List T} (h : evEs C (x :: xs) env = some (us, env')) : ∃ t env1 ts, evE C x env = some (t, env1) ∧ evEs C xs env1 = some (ts, env') ∧ us = t :: ts := by
  unfold evEs at h
  cases e1 : evE C x env with
  | none => rw [e1] at h; cases h
  | some p =>
    obtain ⟨t, env1⟩ := p
    rw [e1] at h
    have h : (do let (xs, env) ← evEs C xs env1; some (t :: xs, env)) = some (us, env') := h
    cases e2 : evEs C xs env1 with
    | none => rw [e2] at h; cases h
    | some p =>
      obtain ⟨ts, env2⟩ := p
      rw [e2] at h
      have h : some (t :: ts, env2) = some (us, env') := h
      cases h
      exact ⟨t, env1, ts, rfl, e2, rfl⟩
theorem a_cons {x : Ir} {xs : List Ir} {e : Expr} {es : List Expr} (he : PE X e (tR A kd x)) (hr : PA X es (tRs A kd xs)) (st : stK A.io kd x xs = true) (hs : starEach (e :: es) X.env = (false, eval e X.env) :: starEach es X.env) : PA X (e :: es) (tRs A kd (x :: xs)) :=
  PA.imp (pa_cons he hr hs) fun σ H Q ⟨F, env, tm, us, env', R, n, ev, q⟩ => by
    obtain ⟨t, env1, ts, h1, h2, rfl⟩ := evEs_cons ev
    refine ⟨F, env, tm, t, env1, R, NoT.of n, h1, fun k v F1 H1 kr R1 s1 => ?_⟩
    refine ⟨F1, env1, tm ++ [⟨k, t, v⟩], ts, env', R1, NoTs.on (NoTs.tail n) kr st, h2, fun es' F2 H2 ks R2 s2 => ?_⟩
    refine q (⟨k, t, v⟩ :: es') F2 H2 (.cons kr ks) (by simpa using R2) (s1.trans s2)

/-! ### operators -/
def rT2 (K : PySem.W.Frag) (g : T → T → Option T) : R2 := fun x y H Q => ∃ F t u z, Same F H ∧ Shal K F H t x ∧ Shal K F H u y ∧ g t u = some z ∧ ∀ v H', OutF K F H z v H' → Q v H'
def rT2o (K : PySem.W.Frag) (g : T → T → Option T) : R2 := fun x y H Q => ∃ F t u z, Same F H ∧ Shal K F H t x ∧ Shal K F H u y ∧ g t u = some z ∧ ∀ v H', Out K F H z v H' → Q v H'
def rT1 (K : PySem.W.Frag) (g : T → Option T) : V → Hp → VK → Prop := fun x H Q => ∃ F t z, Same F H ∧ Shal K F H t x ∧ g t = some z ∧ ∀ v H', OutF K F H z v H' → Q v H'
inductive Shals (K : PySem.W.Frag) (F H : Hp) : List T → List V → Prop
  | nil : Shals K F H [] []
  | cons {t : T} {ts : List T} {v : V} {vs : List V} : Shal K F H t v → Shals K F H ts vs → Shals K F H (t :: ts) (v :: vs)
def rTn (K : PySem.W.Frag) (g : List T → Option T) : List V → Hp → VK → Prop := fun vs H Q => ∃ F ts z, Same F H ∧ Shals K F H ts vs ∧ g ts = some z ∧ ∀ v H', OutF K F H z v H' → Q v H'
theorem bind_some {α β : Type} {o : Option α} {f : α → Option β} {b : β} (h : (do let a ← o; f a) = some b) : ∃ a, o = some a ∧ f a = some b := by
  cases o with
  | none => cases h
  | some a => exact ⟨a, rfl, h⟩
/-- what the evaluator does at a node of two operands -/
def Ev2 (C : Cal) (g : T → T → Option T) (a b node : Ir) : Prop := ∀ env t env', evE C node env = some (t, env') → ∃ x env1 y, evE C a env = some (x, env1) ∧ evE C b env1 = some (y, env') ∧ g x y = some t
/-- the node changes nothing that its operands don't -/
def Tc2 (io : Nat → Nat → Bool) (a b node : Ir) : Prop := ∀ i, tchE io i node = false → tchE io i a = false ∧ tchE io i b = false
theorem op2_imp {g : T → T → Option T} {a b node : Ir} (hev : Ev2 A.C g a b node) (htc : Tc2 A.io a b node) (ra : rdK kd a = true) (rb : rdK kd b = true) (st : stK A.io kd a [b] = true) :
    ∀ σ H Q, tF A kd 1 node σ H Q → tOp (rT2 A.K g) (tR A kd a) (tR A kd b) σ H Q := fun σ H Q ⟨F, env, tm, t, env', R, n, ev, q⟩ => by
  obtain ⟨x, env1, y, h1, h2, h3⟩ := hev _ _ _ ev
  refine ⟨F, env, tm, x, env1, R, fun e he i h => (htc i (n e he i h)).1, h1, fun k v F1 H1 kr R1 s1 => ?_⟩
  refine ⟨F1, env1, tm ++ [⟨k, x, v⟩], y, env', R1, NoT.on1 (fun e he i h => (htc i (n e he i h)).2) kr st, h2, fun k2 v2 F2 H2 kr2 R2 s2 => ?_⟩
  have g1 : Shal A.K F2 H2 x v := R2.shalR (j := tm.length) (by simp) kr ra
  have g2 : Shal A.K F2 H2 y v2 := R2.shalR (j := tm.length + 1) (by simp) kr2 rb
  refine ⟨F2, x, y, t, R2.lay.fh, g1, g2, h3, fun z H3 o => ?_⟩
  have R3 : SR A kd F2 H2 env' σ tm := by
    have := R2; rw [List.append_assoc] at this; exact this.pops
  obtain ⟨F3, R4, s3⟩ := R3.fin1 o
  exact q z F3 H3 R4 ((s1.trans s2).trans s3)
theorem op2_impo {g : T → T → Option T} {a b node : Ir} (hev : Ev2 A.C g a b node) (htc : Tc2 A.io a b node) (ra : rdK kd a = true) (rb : rdK kd b = true) (st : stK A.io kd a [b] = true) :
    ∀ σ H Q, tF A kd 0 node σ H Q → tOp (rT2o A.K g) (tR A kd a) (tR A kd b) σ H Q := fun σ H Q ⟨F, env, tm, t, env', R, n, ev, q⟩ => by
  obtain ⟨x, env1, y, h1, h2, h3⟩ := hev _ _ _ ev
  refine ⟨F, env, tm, x, env1, R, fun e he i h => (htc i (n e he i h)).1, h1, fun k v F1 H1 kr R1 s1 => ?_⟩
  refine ⟨F1, env1, tm ++ [⟨k, x, v⟩], y, env', R1, NoT.on1 (fun e he i h => (htc i (n e he i h)).2) kr st, h2, fun k2 v2 F2 H2 kr2 R2 s2 => ?_⟩
  have g1 : Shal A.K F2 H2 x v := R2.shalR (j := tm.length) (by simp) kr ra
  have g2 : Shal A.K F2 H2 y v2 := R2.shalR (j := tm.length + 1) (by simp) kr2 rb
  refine ⟨F2, x, y, t, R2.lay.fh, g1, g2, h3, fun z H3 o => ?_⟩
  have R3 : SR A kd F2 H2 env' σ tm := by
    have := R2; rw [List.append_assoc] at this; exact this.pops
  obtain ⟨F3, R4, s3⟩ := R3.fin0 o
  exact q z F3 H3 R4 ((s1.trans s2).trans s3)
def Ev1 (C : Cal) (g : T → Option T) (a node : Ir) : Prop := ∀ env t env', evE C node env = some (t, env') → ∃ x, evE C a env = some (x, env') ∧ g x = some t
theorem op1_imp {g : T → Option T} {a node : Ir} (hev : Ev1 A.C g a node) (htc : ∀ i, tchE A.io i node = false → tchE A.io i a = false) (ra : rdK kd a = true) :
    ∀ σ H Q, tF A kd 1 node σ H Q → tUn (rT1 A.K g) (tR A kd a) σ H Q := fun σ H Q ⟨F, env, tm, t, env', R, n, ev, q⟩ => by
  obtain ⟨x, h1, h3⟩ := hev _ _ _ ev
  refine ⟨F, env, tm, x, env', R, fun e he i h => htc i (n e he i h), h1, fun k v F1 H1 kr R1 s1 => ?_⟩
  have g1 : Shal A.K F1 H1 x v := R1.shalR (j := tm.length) (by simp) kr ra
  refine ⟨F1, x, t, R1.lay.fh, g1, h3, fun z H3 o => ?_⟩
  obtain ⟨F3, R4, s3⟩ := R1.pops.fin1 o
  exact q z F3 H3 R4 (s1.trans s3)
/-- the arguments' values as they stand behind them all -/
theorem SR.shals {F H : Hp} {env : Env} {σ : L2.St} {tm es : List Ent} {xs : List Ir} {ts : List T} (R : SR A kd F H env σ (tm ++ es)) (ks : KRs kd xs ts es) (rd : xs.all (rdK kd) = true) : Shals A.K F H ts (es.map (·.v)) := by
  induction ks generalizing tm with
  | nil => exact .nil
  | @cons x xs t ts k v es h1 h2 ih =>
    have rd' : rdK kd x = true ∧ xs.all (rdK kd) = true := by simpa using rd
    refine .cons (R.shalR (j := tm.length) (by simp) h1 rd'.1) (ih (tm := tm ++ [⟨k, t, v⟩]) (by simpa using R) rd'.2)
theorem opn_imp {g : List T → Option T} {as : List Ir} {node : Ir} (hev : ∀ env t env', evE A.C node env = some (t, env') → ∃ xs, evEs A.C as env = some (xs, env') ∧ g xs = some t) (htc : ∀ i, tchE A.io i node = false → tchEs A.io i as = false) (ra : as.all (rdK kd) = true) :
    ∀ σ H Q, tF A kd 1 node σ H Q → tCB (rTn A.K g) (tRs A kd as) σ H Q := fun σ H Q ⟨F, env, tm, t, env', R, n, ev, q⟩ => by
  obtain ⟨xs, h1, h3⟩ := hev _ _ _ ev
  refine ⟨F, env, tm, xs, env', R, fun e he i h => htc i (n e he i h), h1, fun es F1 H1 ks R1 s1 => ?_⟩
  refine ⟨F1, xs, t, R1.lay.fh, R1.shals ks ra, h3, fun z H3 o => ?_⟩
  obtain ⟨F3, R4, s3⟩ := R1.pops.fin1 o
  exact q z F3 H3 R4 (s1.trans s3)
end
end Pv
end

section
set_option Elab.async false
set_option linter.all false
set_option maxRecDepth 100000
/-! PvF: each operation over trees, by the hand layer's rules. -/
namespace Pv
open PySem PySem.Spec PyProof.Rows L2

theorem okLen_line {n : Nat} (h : okLen n = true) : n ≤ sizeLine := by
  have h := of_decide_eq_true h
  rw [sizeLine_eq]
  omega
theorem strOk_append {a b : List Nat} (h : strOkL a = true) (h' : strOkL b = true) : strOkL (a ++ b) = true := by
  unfold strOkL at *
  rw [List.all_append, h, h']; rfl
theorem strOk_mem {a b : List Nat} (h : strOkL a = true) (hs : ∀ c ∈ b, c ∈ a) : strOkL b = true := by
  unfold strOkL at *
  rw [List.all_eq_true] at *
  exact fun c hc => h c (hs c hc)
section
variable {X : Cx} {F H H' : Hp}
theorem outS {K : PySem.W.Frag} {z : T} {v : V} (r : Rep K F z v) (hm : z.mutable = false := by rfl) : OutF K F H z v H := .inl ⟨rfl, r, hm⟩
theorem strLen (s : List Nat) : (⟨s.toArray⟩ : Str).length = s.length := by simp [Str.length]
theorem appStr (a b : List Nat) : (⟨a.toArray⟩ : Str) ++ ⟨b.toArray⟩ = ⟨(a ++ b).toArray⟩ := by
  show Str.append _ _ = _
  unfold Str.append
  simp
theorem r_add : OpR X (binaryOp .Add) (rT2 X.K addT) := by
  intro pins s σ H x y v u Q I rx ry h
  obtain ⟨F, t, w, z, hs, h1, h2, h3, q⟩ := h
  unfold addT at h3
  split at h3
  · cases h1; cases h2; cases h3
    exact op_add pins s σ H _ _ v u Q I rx ry ⟨_, _, rfl, rfl, q _ _ (outS (.int _))⟩
  · rename_i a b _
    cases h1 with | str _ a1 a2 =>
    cases h2 with | str _ b1 b2 =>
    split at h3
    · rename_i hl
      cases h3
      refine op_add_str pins s σ H _ _ v u Q I rx ry ⟨_, _, rfl, rfl, ?_, ?_⟩
      · rw [strLen, strLen]; exact okLen_line hl
      · rw [appStr]
        exact q _ _ (outS (.str _ (strOk_append a1 b1) (by rw [List.length_append]; exact hl)))
    · cases h3
  · rename_i a b _
    obtain ⟨pa, xs, rfl, ha, ra⟩ := h1
    obtain ⟨pb, ys, rfl, hb, rb⟩ := h2
    split at h3
    · rename_i hl
      cases h3
      refine op_cat pins s σ H _ _ v u Q I rx ry ⟨pa, pb, xs, ys, rfl, rfl, ha, hb, ?_, fun p hp => ?_⟩
      · rw [← ra.length, ← rb.length]; exact okLen_line hl
      · exact q _ _ (.inr (.inl ⟨p, _, _, rfl, rfl, hp, rfl, ra.append rb⟩))
    · cases h3
  · rename_i a b
    cases h1 with | @tup _ pa xs ha ra =>
    cases h2 with | @tup _ pb ys hb rb =>
    split at h3
    · rename_i hl
      cases h3
      refine op_catA pins s σ H _ _ v u Q I rx ry ⟨pa, pb, xs, ys, rfl, rfl, Same.seqT hs ha, Same.seqT hs hb, ?_, fun e => ?_, fun e e' => ?_, fun _ _ p hp => ?_⟩
      · rw [← ra.length, ← rb.length]; exact okLen_line hl
      · subst e
        have e2 : a = [] := by
          have := ra.length; simpa using this
        subst e2
        exact q _ _ (outS (.tup hb (by simpa using rb)))
      · subst e'
        have e2 : b = [] := by
          have := rb.length; simpa using this
        subst e2
        exact q _ _ (outS (.tup ha (by simpa using ra)))
      · exact q _ _ (.inr (.inr ⟨p, _, _, rfl, rfl, hp, rfl, ra.append rb⟩))
    · cases h3
  · cases h3
theorem r_sub : OpR X (binaryOp .Sub) (rT2 X.K subT) := by
  intro pins s σ H x y v u Q I rx ry h
  obtain ⟨F, t, w, z, hs, h1, h2, h3, q⟩ := h
  unfold subT at h3
  split at h3
  · cases h1; cases h2; cases h3
    exact op_sub pins s σ H _ _ v u Q I rx ry ⟨_, _, rfl, rfl, q _ _ (outS (.int _))⟩
  · cases h3
theorem big_pos : bigN = 2 ^ 100000 := rfl
theorem r_mod : OpR X (binaryOp .Mod) (rT2 X.K modT) := by
  intro pins s σ H x y v u Q I rx ry h
  obtain ⟨F, t, w, z, hs, h1, h2, h3, q⟩ := h
  unfold modT at h3
  split at h3
  · split at h3
    · rename_i hj
      cases h1; cases h2; cases h3
      exact op_mod pins s σ H _ _ v u Q I rx ry ⟨_, _, rfl, rfl, of_decide_eq_true hj, q _ _ (outS (.int _))⟩
    · cases h3
  · cases h3
theorem r_fdiv : OpR X (binaryOp .FloorDiv) (rT2 X.K fdivT) := by
  intro pins s σ H x y v u Q I rx ry h
  obtain ⟨F, t, w, z, hs, h1, h2, h3, q⟩ := h
  unfold fdivT at h3
  split at h3
  · split at h3
    · rename_i hj
      have hj := Bool.and_eq_true_iff.mp hj
      cases h1; cases h2; cases h3
      exact op_fdivW pins s σ H _ _ v u Q I rx ry ⟨_, _, rfl, rfl, wide_div (i := 0) (of_decide_eq_true hj.1) (of_decide_eq_true hj.2) (by decide) (by decide), q _ _ (outS (.int _))⟩
    · cases h3
  · cases h3
theorem r_pow : OpR X (binaryOp .Pow) (rT2 X.K powT) := by
  intro pins s σ H x y v u Q I rx ry h
  obtain ⟨F, t, w, z, hs, h1, h2, h3, q⟩ := h
  unfold powT at h3
  split at h3
  · split at h3
    · rename_i hj
      have hj := Bool.and_eq_true_iff.mp hj
      have hk := Bool.and_eq_true_iff.mp hj.1
      cases h1; cases h2; cases h3
      exact op_pow pins s σ H _ _ v u Q I rx ry ⟨_, _, rfl, rfl, ⟨of_decide_eq_true hk.1, of_decide_eq_true hk.2, Nat.lt_trans (of_decide_eq_true hj.2) (by decide)⟩, q _ _ (outS (.int _))⟩
    · cases h3
  · cases h3
theorem r_shl : OpR X (binaryOp .LShift) (rT2 X.K shlT) := by
  intro pins s σ H x y v u Q I rx ry h
  obtain ⟨F, t, w, z, hs, h1, h2, h3, q⟩ := h
  unfold shlT at h3
  split at h3
  · split at h3
    · rename_i hj
      have hj := Bool.and_eq_true_iff.mp hj
      have hk := Bool.and_eq_true_iff.mp hj.1
      cases h1; cases h2; cases h3
      exact op_shl pins s σ H _ _ v u Q I rx ry ⟨_, _, rfl, rfl, ⟨of_decide_eq_true hk.1, of_decide_eq_true hk.2, Nat.lt_trans (of_decide_eq_true hj.2) (by decide)⟩, q _ _ (outS (.int _))⟩
    · cases h3
  · cases h3
theorem r_shr : OpR X (binaryOp .RShift) (rT2 X.K shrT) := by
  intro pins s σ H x y v u Q I rx ry h
  obtain ⟨F, t, w, z, hs, h1, h2, h3, q⟩ := h
  unfold shrT at h3
  split at h3
  · split at h3
    · rename_i hj
      cases h1; cases h2; cases h3
      exact op_shr pins s σ H _ _ v u Q I rx ry ⟨_, _, rfl, rfl, of_decide_eq_true hj, q _ _ (outS (.int _))⟩
    · cases h3
  · cases h3
theorem r_band : OpR X (binaryOp .BitAnd) (rT2 X.K bandT) := by
  intro pins s σ H x y v u Q I rx ry h
  obtain ⟨F, t, w, z, hs, h1, h2, h3, q⟩ := h
  unfold bandT at h3
  split at h3
  · cases h1; cases h2; cases h3
    exact op_and pins s σ H _ _ v u Q I rx ry ⟨_, _, rfl, rfl, q _ _ (outS (.int _))⟩
  · cases h3
theorem strOk_repl {a : List Nat} (h : strOkL a = true) (n : Nat) : strOkL (repl n a) = true :=
  strOk_mem h fun c hc => by
    obtain ⟨l, hl, hm⟩ := List.mem_flatten.mp hc
    rw [(List.mem_replicate.mp hl).2] at hm
    exact hm
theorem repl_len {α : Type} (a : List α) (n : Nat) : (repl n a).length = a.length * n := by
  unfold repl
  rw [List.length_flatten, List.map_replicate, List.sum_replicate_nat, Nat.mul_comm]
theorem foldl_app {α : Type} : ∀ (l : List (Array α)) (z : Array α), l.foldl (· ++ ·) z = z ++ (l.map Array.toList).flatten.toArray
  | [], z => by simp
  | a :: l, z => by
    rw [List.foldl_cons, foldl_app l]
    apply Array.toList_inj.mp
    simp
theorem mul_str_ok {pins : List (Addr × Obj)} {s : Shared} {σ : L2.St} {a : List Nat} {j : Int} {t u : Tok} {Q : VK} (I : Inv X pins σ H s) (hl : a.length * j.toNat ≤ 1000000) (h1 : j < 1000000000) (h2 : -1000000000 < j) (q : Q (.str ⟨(repl j.toNat a).toArray⟩) H) :
    wpAny (model X.prog X.w) X.A (binaryOp .Mult (.str ⟨a.toArray⟩ t) (.int j u)) (EP X pins σ Q) X.xe s := by
  have hN : ¬ j < -(2 ^ 63 : Int) := by omega
  have hP : ¬ j ≥ 2 ^ 63 := by omega
  refine PySem.P.mul_str (by rw [decide_eq_false hN, decide_eq_false hP]; rfl) (fun k1 k2 => ?_) (fun k1 k2 => ?_) ?_
  · rw [strLen]
    have hj : 0 < j := by omega
    have e1 : (a.length : Int) * j ≤ 1000000 := by
      have e : ((a.length * j.toNat : Nat) : Int) = (a.length : Int) * j := by
        rw [Int.natCast_mul, Int.toNat_of_nonneg (by omega)]
      rw [← e]; omega
    have e2 : (a.length : Int) ≤ (2 ^ 63 - 1) / j := (Int.le_ediv_iff_mul_le hj).mpr (by omega)
    omega
  · rw [strLen]
    have : a.length * j.toNat ≤ sizeLine := by rw [sizeLine_eq]; omega
    exact decide_eq_false (by omega)
  · by_cases k1 : j < 1
    · rw [if_pos k1]
      have e : j.toNat = 0 := by omega
      rw [e] at q
      exact ⟨by decide, .str _, H, I.tok _, ⟨_, rfl⟩, q⟩
    · rw [if_neg k1]
      by_cases k2 : (j == 1 || (⟨a.toArray⟩ : Str).length == 0) = true
      · rw [if_pos k2]
        refine ⟨.str ⟨a.toArray⟩, H, I, ⟨t, rfl⟩, ?_⟩
        rw [strLen] at k2
        have : repl j.toNat a = a := by
          rcases Bool.or_eq_true_iff.mp k2 with k | k
          · have e : j = 1 := by simpa using k
            subst e
            show (List.replicate 1 a).flatten = a
            simp
          · have e : a = [] := by simpa using k
            subst e
            unfold repl
            simp
        rw [this] at q; exact q
      · rw [if_neg k2]
        have e : (List.replicate j.toNat (⟨a.toArray⟩ : Str).cps).foldl (· ++ ·) #[] = (repl j.toNat a).toArray := by
          rw [foldl_app, List.map_replicate]
          unfold repl
          simp
        rw [e]
        refine ⟨?_, .str _, H, I.tok _, ⟨_, rfl⟩, q⟩
        show (⟨(repl j.toNat a).toArray⟩ : Str).length ≤ sizeLine
        rw [strLen, repl_len, sizeLine_eq]; omega
theorem okRep_of {n : Nat} {j : Int} (h : okRep n j = true) : n * j.toNat ≤ 1000000 ∧ j < 1000000000 ∧ -1000000000 < j := by
  unfold okRep at h
  have h1 := Bool.and_eq_true_iff.mp h
  have h2 := Bool.and_eq_true_iff.mp h1.1
  exact ⟨of_decide_eq_true h2.1, of_decide_eq_true h2.2, of_decide_eq_true h1.2⟩
theorem r_mul : OpR X (binaryOp .Mult) (rT2 X.K mulT) := by
  intro pins s σ H x y v u Q I rx ry h
  obtain ⟨F, t, w, z, hs, h1, h2, h3, q⟩ := h
  unfold mulT at h3
  split at h3
  · split at h3
    · rename_i hj
      have hj := Bool.and_eq_true_iff.mp hj
      cases h1; cases h2; cases h3
      exact op_mulW pins s σ H _ _ v u Q I rx ry ⟨_, _, rfl, rfl, wide_mul (of_decide_eq_true hj.1) (of_decide_eq_true hj.2) (by decide) (by decide) (by decide), q _ _ (outS (.int _))⟩
    · cases h3
  · split at h3
    · rename_i hj
      obtain ⟨a1, a2, a3⟩ := okRep_of hj
      cases h1 with | str _ b1 b2 =>
      cases h2; cases h3
      obtain ⟨t, rfl⟩ := rx
      obtain ⟨t', rfl⟩ := ry
      exact mul_str_ok I a1 a2 a3 (q _ _ (outS (.str _ (strOk_repl b1 _) (by rw [repl_len]; exact decide_eq_true a1))))
    · cases h3
  · split at h3
    · rename_i hj
      obtain ⟨a1, a2, a3⟩ := okRep_of hj
      obtain ⟨pa, xs, rfl, ha, ra⟩ := h1
      cases h2; cases h3
      refine op_rep pins s σ H _ _ v u Q I rx ry ⟨pa, _, xs, rfl, rfl, ha, by omega, by omega, ?_, fun p hp => ?_⟩
      · rw [← ra.length, sizeLine_eq]; omega
      · exact q _ _ (.inr (.inl ⟨p, _, _, rfl, rfl, hp, rfl, ra.repl _⟩))
    · cases h3
  · cases h3
theorem r_neg : UnR X (unaryOp .USub) (rT1 X.K negT) := by
  intro pins s σ H x v Q I rx h
  obtain ⟨F, t, z, hs, h1, h3, q⟩ := h
  unfold negT at h3
  split at h3
  · cases h1; cases h3
    exact un_neg pins s σ H _ v Q I rx ⟨_, rfl, q _ _ (outS (.int _))⟩
  · cases h3

/-! ### comparisons -/
theorem Shal.rep {K : PySem.W.Frag} {t : T} {v : V} (h : Shal K F H t v) (s : Same F H) : Rep K H t v := by
  cases t with
  | lst ts =>
    obtain ⟨a, xs, rfl, h1, h2⟩ := h
    exact .lst h1 (h2.mono s)
  | _ => exact Rep.mono s h
mutual
theorem Rep.dp {K : PySem.W.Frag} : ∀ {t : T} {v : V}, Rep K H t v → t.pl = true → Dp K H v t.d ∧ t.d.canLay0 = true
  | _, _, .non, _ => ⟨.non, rfl⟩
  | _, _, .bl b, _ => ⟨.bl b, rfl⟩
  | _, _, .int i, _ => ⟨.int i, rfl⟩
  | _, _, .str s h _, _ => ⟨.str _, by
    show PyData.canLay0 (.str ⟨s.toArray⟩) = true
    rw [PyData.canLay0]
    unfold PyData.strOk
    rw [← Array.all_toList]
    exact h⟩
  | _, _, .tup h r, p => by
    obtain ⟨a, b⟩ := Reps.dp r p
    exact ⟨.tup h a, by
      show PyData.canLay0 (.tuple _) = true
      rw [PyData.canLay0]; exact b⟩
  | _, _, .lst h r, p => by
    obtain ⟨a, b⟩ := Reps.dp r p
    exact ⟨.lst (SqL.of h) a, by
      show PyData.canLay0 (.list _) = true
      rw [PyData.canLay0]; exact b⟩
theorem Reps.dp {K : PySem.W.Frag} : ∀ {ts : List T} {vs : List V}, Reps K H ts vs → Ts.pl ts = true → DpAll K H vs (Ts.d ts) ∧ PyData.canLayAll0 (Ts.d ts) = true
  | _, _, .nil, _ => ⟨.nil, rfl⟩
  | _, _, .cons (t := t) (ts := ts) h r, p => by
    have p : (t.pl && Ts.pl ts) = true := p
    obtain ⟨p1, p2⟩ := Bool.and_eq_true_iff.mp p
    obtain ⟨a, b⟩ := Rep.dp h p1
    obtain ⟨c, d⟩ := Reps.dp r p2
    exact ⟨.cons a c, by
      show PyData.canLayAll0 (t.d :: Ts.d ts) = true
      rw [PyData.canLayAll0, b, d]; rfl⟩
end
mutual
theorem T.d_depth : ∀ t : T, t.d.depth ≤ t.dep
  | .non => Nat.le_refl _
  | .bl _ => Nat.le_refl _
  | .int _ => Nat.le_refl _
  | .str _ => Nat.le_refl _
  | .tup l => by
    show PyData.depth (.tuple _) ≤ Ts.dep l + 1
    rw [PyData.depth]
    have := Ts.d_depth l
    omega
  | .lst l => by
    show PyData.depth (.list _) ≤ Ts.dep l + 1
    rw [PyData.depth]
    have := Ts.d_depth l
    omega
  | .dct _ _ => Nat.zero_le _
  | .set _ => Nat.zero_le _
theorem Ts.d_depth : ∀ l : List T, PyData.depthAll (Ts.d l) ≤ Ts.dep l
  | [] => Nat.le_refl _
  | t :: l => by
    show PyData.depthAll (t.d :: Ts.d l) ≤ max t.dep (Ts.dep l)
    rw [PyData.depthAll]
    have := T.d_depth t
    have := Ts.d_depth l
    omega
end
theorem eqT_some {a b : T} {z : Bool} (h : eqT a b = some z) : a.pl = true ∧ b.pl = true ∧ min a.dep b.dep ≤ 60 ∧ z = PyData.eqv a.d b.d := by
  unfold eqT at h
  split at h
  · rename_i hc
    have h1 := Bool.and_eq_true_iff.mp hc
    have h2 := Bool.and_eq_true_iff.mp h1.1
    cases h
    exact ⟨h2.1, h2.2, of_decide_eq_true h1.2, rfl⟩
  · cases h
def rTc (K : PySem.W.Frag) (g : T → T → Option Bool) : R2 := rT2 K fun a b => (g a b).map T.bl
theorem depth_room {A : Around} {a b : T} (hu : A.units + 64 < cLine) (h : min a.dep b.dep ≤ 60) : A.units + min a.d.depth b.d.depth < cLine := by
  have h1 := T.d_depth a
  have h2 := T.d_depth b
  omega
theorem r_eq (hu : X.A.units + 64 < cLine) : OpR X (compareOp .Eq) (rTc X.K eqT) := by
  intro pins s σ H x y v u Q I rx ry h
  obtain ⟨F, t, w, z, hs, h1, h2, h3, q⟩ := h
  obtain ⟨b, h4, rfl⟩ := Option.map_eq_some_iff.mp h3
  obtain ⟨p1, p2, p3, rfl⟩ := eqT_some h4
  obtain ⟨d1, c1⟩ := (h1.rep hs).dp p1
  obtain ⟨d2, c2⟩ := (h2.rep hs).dp p2
  obtain ⟨as, r1⟩ := Dp.reads I _ x v d1 rx
  obtain ⟨bs, r2⟩ := Dp.reads I _ y u d2 ry
  exact SeqAt.compareEq_reads r1 r2 c1 c2 (depth_room hu p3) ⟨.bl _, H, I, rfl, q _ _ (outS (.bl _))⟩
theorem r_ne (hu : X.A.units + 64 < cLine) : OpR X (compareOp .NotEq) (rTc X.K fun a b => (eqT a b).map (!·)) := by
  intro pins s σ H x y v u Q I rx ry h
  obtain ⟨F, t, w, z, hs, h1, h2, h3, q⟩ := h
  obtain ⟨b0, h5, rfl⟩ := Option.map_eq_some_iff.mp h3
  obtain ⟨b, h4, rfl⟩ := Option.map_eq_some_iff.mp h5
  obtain ⟨p1, p2, p3, rfl⟩ := eqT_some h4
  obtain ⟨d1, c1⟩ := (h1.rep hs).dp p1
  obtain ⟨d2, c2⟩ := (h2.rep hs).dp p2
  obtain ⟨as, r1⟩ := Dp.reads I _ x v d1 rx
  obtain ⟨bs, r2⟩ := Dp.reads I _ y u d2 ry
  exact SeqAt.compareNe_reads r1 r2 c1 c2 (depth_room hu p3) ⟨.bl _, H, I, rfl, q _ _ (outS (.bl _))⟩
theorem nonq {K : PySem.W.Frag} {t : T} {x : V} (h1 : Shal K F H t x) : decide (x = V.non) = t.isN := by
  cases t with
  | lst l =>
    obtain ⟨a, xs, rfl, _⟩ := h1
    rfl
  | _ => first | (cases h1; done) | (cases h1; rfl)
theorem r_is : OpR X (compareOp .Is) (rTc X.K (cmpT .is)) := by
  intro pins s σ H x y v u Q I rx ry h
  obtain ⟨F, t, w, z, hs, h1, h2, h3, q⟩ := h
  obtain ⟨b, h4, rfl⟩ := Option.map_eq_some_iff.mp h3
  cases w with
  | non =>
    cases h2
    cases h4
    refine op_isN pins s σ H _ _ v u Q I rx ry ⟨rfl, ?_⟩
    rw [nonq h1]
    exact q _ _ (outS (.bl _))
  | bl c =>
    cases t with
    | bl d =>
      cases h1; cases h2; cases h4
      refine op_isBl pins s σ H _ _ v u Q I rx ry ⟨_, _, rfl, rfl, ?_⟩
      have e : decide (d = c) = (d == c) := (Bool.beq_eq_decide_eq d c).symm
      rw [e]
      exact q _ _ (outS (.bl _))
    | _ => cases h4
  | _ => cases h4
theorem r_isnot : OpR X (compareOp .IsNot) (rTc X.K (cmpT .isnot)) := by
  intro pins s σ H x y v u Q I rx ry h
  obtain ⟨F, t, w, z, hs, h1, h2, h3, q⟩ := h
  obtain ⟨b, h4, rfl⟩ := Option.map_eq_some_iff.mp h3
  cases w with
  | non =>
    cases h2
    cases h4
    refine op_notN pins s σ H _ _ v u Q I rx ry ⟨rfl, ?_⟩
    rw [nonq h1]
    exact q _ _ (outS (.bl _))
  | bl c =>
    cases t with
    | bl d =>
      cases h1; cases h2; cases h4
      refine op_notBl pins s σ H _ _ v u Q I rx ry ⟨_, _, rfl, rfl, ?_⟩
      have e : decide (d = c) = (d == c) := (Bool.beq_eq_decide_eq d c).symm
      rw [e]
      exact q _ _ (outS (.bl _))
    | _ => cases h4
  | _ => cases h4

theorem r_lt : OpR X (compareOp .Lt) (rTc X.K ltS) := by
  intro pins s σ H x y v u Q I rx ry h
  obtain ⟨F, t, w, z, hs, h1, h2, h3, q⟩ := h
  obtain ⟨b, h4, rfl⟩ := Option.map_eq_some_iff.mp h3
  unfold ltS at h4
  split at h4
  · cases h1; cases h2; cases h4
    exact op_lt pins s σ H _ _ v u Q I rx ry ⟨_, _, rfl, rfl, q _ _ (outS (.bl _))⟩
  · cases h1; cases h2; cases h4
    exact op_lt_str pins s σ H _ _ v u Q I rx ry ⟨_, _, rfl, rfl, q _ _ (outS (.bl _))⟩
  · cases h4
theorem r_gt : OpR X (compareOp .Gt) (rTc X.K gtS) := by
  intro pins s σ H x y v u Q I rx ry h
  obtain ⟨F, t, w, z, hs, h1, h2, h3, q⟩ := h
  obtain ⟨b, h4, rfl⟩ := Option.map_eq_some_iff.mp h3
  unfold gtS at h4
  split at h4
  · cases h1; cases h2; cases h4
    exact op_gt pins s σ H _ _ v u Q I rx ry ⟨_, _, rfl, rfl, q _ _ (outS (.bl _))⟩
  · cases h4
theorem r_le : OpR X (compareOp .LtE) (rTc X.K leS) := by
  intro pins s σ H x y v u Q I rx ry h
  obtain ⟨F, t, w, z, hs, h1, h2, h3, q⟩ := h
  obtain ⟨b, h4, rfl⟩ := Option.map_eq_some_iff.mp h3
  unfold leS at h4
  split at h4
  · cases h1; cases h2; cases h4
    exact op_le pins s σ H _ _ v u Q I rx ry ⟨_, _, rfl, rfl, q _ _ (outS (.bl _))⟩
  · cases h4
theorem r_ge : OpR X (compareOp .GtE) (rTc X.K geS) := by
  intro pins s σ H x y v u Q I rx ry h
  obtain ⟨F, t, w, z, hs, h1, h2, h3, q⟩ := h
  obtain ⟨b, h4, rfl⟩ := Option.map_eq_some_iff.mp h3
  unfold geS at h4
  split at h4
  · cases h1; cases h2; cases h4
    exact op_ge pins s σ H _ _ v u Q I rx ry ⟨_, _, rfl, rfl, q _ _ (outS (.bl _))⟩
  · cases h4
/-! ### in -/
theorem memT_some {x : T} {l : List T} {z : Bool} (h : memT x l = some z) : x.pl = true ∧ Ts.pl l = true ∧ x.dep ≤ 60 ∧ z = l.any fun y => PyData.eqv y.d x.d := by
  unfold memT at h
  split at h
  · rename_i hc
    have h1 := Bool.and_eq_true_iff.mp hc
    have h2 := Bool.and_eq_true_iff.mp h1.1
    cases h
    exact ⟨h2.1, h2.2, of_decide_eq_true h1.2, rfl⟩
  · cases h

theorem Ts.d_any (f : PyData → Bool) : ∀ l : List T, (Ts.d l).any f = l.any fun y => f y.d
  | [] => rfl
  | t :: l => by
    show (t.d :: Ts.d l).any f = _
    rw [List.any_cons, List.any_cons, Ts.d_any f l]
theorem r_inG (hu : X.A.units + 65 < cLine) {F : Hp} {x y : V} {v u : Value} {t w : T} {b : Bool} {pins : List (Addr × Obj)} {s : Shared} {σ : L2.St} (I : Inv X pins σ H s) (rx : RelV x v) (ry : RelV y u) (hs : Same F H) (h1 : Shal X.K F H t x) (h2 : Shal X.K F H w y) (h4 : inT t w = some b) :
    (∀ Q : VK, Q (.bl b) H → wpAny (model X.prog X.w) X.A (compareOp .In v u) (EP X pins σ Q) X.xe s) ∧ (∀ Q : VK, Q (.bl (!b)) H → wpAny (model X.prog X.w) X.A (compareOp .NotIn v u) (EP X pins σ Q) X.xe s) := by
  have room : ∀ l : List T, t.dep ≤ 60 → X.A.units + 1 + min (PyData.depthAll (Ts.d l)) t.d.depth < cLine := fun l h => by
    have := T.d_depth t
    omega
  unfold inT at h4
  split at h4
  · rename_i l
    obtain ⟨p1, p2, p3, rfl⟩ := memT_some h4
    obtain ⟨d1, c1⟩ := (h1.rep hs).dp p1
    obtain ⟨d2, c2⟩ := (h2.rep hs).dp (t := .tup l) p2
    obtain ⟨as, r1⟩ := Dp.reads I _ x v d1 rx
    obtain ⟨bs, r2⟩ := Dp.reads I _ y u d2 ry
    have c2 : PyData.canLay0 (.tuple (Ts.d l)) = true := c2
    refine ⟨fun Q q => SeqAt.in_tuple_reads r2 r1 c2 c1 (room l p3) ⟨.bl _, H, I, rfl, ?_⟩, fun Q q => SeqAt.notIn_tuple_reads r2 r1 c2 c1 (room l p3) ⟨.bl _, H, I, rfl, ?_⟩⟩
    · rw [Ts.d_any]; exact q
    · rw [Ts.d_any]; exact q
  · rename_i l
    obtain ⟨p1, p2, p3, rfl⟩ := memT_some h4
    obtain ⟨d1, c1⟩ := (h1.rep hs).dp p1
    obtain ⟨d2, c2⟩ := (h2.rep hs).dp (t := .lst l) p2
    obtain ⟨as, r1⟩ := Dp.reads I _ x v d1 rx
    obtain ⟨bs, r2⟩ := Dp.reads I _ y u d2 ry
    have c2 : PyData.canLay0 (.list (Ts.d l)) = true := c2
    refine ⟨fun Q q => SeqAt.in_list_reads r2 r1 c2 c1 (room l p3) ⟨.bl _, H, I, rfl, ?_⟩, fun Q q => SeqAt.notIn_list_reads r2 r1 c2 c1 (room l p3) ⟨.bl _, H, I, rfl, ?_⟩⟩
    · rw [Ts.d_any]; exact q
    · rw [Ts.d_any]; exact q
  · rename_i a b
    cases h1; cases h2; cases h4
    refine ⟨fun Q q => op_in_str pins s σ H _ _ _ _ Q I rx ry ⟨_, _, rfl, rfl, ?_⟩, fun Q q => op_notIn_str pins s σ H _ _ _ _ Q I rx ry ⟨_, _, rfl, rfl, ?_⟩⟩
    · rw [strLen]; exact q
    · rw [strLen]; exact q
  · cases h4
theorem r_in (hu : X.A.units + 65 < cLine) : OpR X (compareOp .In) (rTc X.K inT) := by
  intro pins s σ H x y v u Q I rx ry h
  obtain ⟨F, t, w, z, hs, h1, h2, h3, q⟩ := h
  obtain ⟨b, h4, rfl⟩ := Option.map_eq_some_iff.mp h3
  exact (r_inG hu I rx ry hs h1 h2 h4).1 Q (q _ _ (outS (.bl _)))
theorem r_notin (hu : X.A.units + 65 < cLine) : OpR X (compareOp .NotIn) (rTc X.K fun a b => (inT a b).map (!·)) := by
  intro pins s σ H x y v u Q I rx ry h
  obtain ⟨F, t, w, z, hs, h1, h2, h3, q⟩ := h
  obtain ⟨b, h4, rfl⟩ := Option.map_eq_some_iff.mp h3
  obtain ⟨b, h5, rfl⟩ := Option.map_eq_some_iff.mp h4
  exact (r_inG hu I rx ry hs h1 h2 h5).2 Q (q _ _ (outS (.bl _)))

/-! ### items, slices -/
theorem Reps.at {K : PySem.W.Frag} {l : List T} {xs : List V} {i : Int} {t : T} (r : Reps K F l xs) (h : (ixN l.length i).bind (l[·]?) = some t) : ∃ x, atI xs i = some x ∧ Rep K F t x := by
  unfold atI
  rw [← r.length]
  cases e : ixN l.length i with
  | none => rw [e] at h; cases h
  | some j =>
    rw [e] at h
    exact r.get h
theorem r_ix : IxR X (rT2o X.K ixT) := by
  intro value slice pins s σ H x y v u Q I rx ry h hs
  obtain ⟨F, t, w, z, hs', h1, h2, h3, q⟩ := h
  unfold ixT at h3
  split at h3
  · cases h1 with | @tup _ pa xs ha ra =>
    cases h2
    obtain ⟨y, e, r⟩ := ra.at h3
    exact ix_tup value slice pins s σ H _ _ v u Q I rx ry ⟨pa, xs, _, y, rfl, rfl, Same.seqT hs' ha, e, q _ _ (.inr ⟨rfl, r⟩)⟩ hs
  · obtain ⟨pa, xs, rfl, ha, ra⟩ := h1
    cases h2
    obtain ⟨y, e, r⟩ := ra.at h3
    exact ix_list value slice pins s σ H _ _ v u Q I rx ry ⟨pa, xs, _, y, rfl, rfl, SqL.of ha, e, q _ _ (.inr ⟨rfl, r⟩)⟩ hs
  · cases h1 with | str _ a1 a2 =>
    cases h2
    obtain ⟨c, h4, rfl⟩ := Option.map_eq_some_iff.mp h3
    refine ix_str value slice pins s σ H _ _ v u Q I rx ry ⟨_, _, c, rfl, rfl, ?_, ?_, ?_⟩ hs
    · rw [strLen]; exact okLen_line a2
    · exact h4
    · refine q _ _ (.inr ⟨rfl, .str [c] (strOk_mem a1 fun d hd => ?_) rfl⟩)
      have : d = c := by simpa using hd
      rw [this]
      obtain ⟨j, _, hj⟩ := Option.bind_eq_some_iff.mp h4
      exact List.mem_of_getElem? hj
  · cases h3
theorem Reps.cutR {K : PySem.W.Frag} {l : List T} {xs : List V} (r : Reps K F l xs) (lo hi : Option Int) : Reps K F (cut l lo hi) (cutV xs lo hi) := by
  unfold Pv.cut cutV
  rw [← r.length]
  exact (r.drop _).take _
theorem cut_all {α : Type} (l : List α) {lo hi : Option Int} (h : HT.sIx l.length 0 lo = 0 ∧ HT.sIx l.length l.length hi = l.length) : cut l lo hi = l := by
  unfold cut
  rw [h.1, h.2]
  simp

theorem getItem_tuple_whole {prog : Program} {w : World} {A : Around} {E : Value → Shared → Prop} {s : Shared} {t sl : Addr} {items : Array Value} {vl vu : Value} {lo hi : Option Int} {Q : Value → Shared → Prop} (ht : IsTup s.heap t items) (hs : s.heap.IsSliceOf sl vl vu .none) (pl : IsPart vl lo) (pu : IsPart vu hi)
    (hw : HT.sIx items.size 0 lo = 0 ∧ HT.sIx items.size items.size hi = items.size) (h : Q (.ref t) s) : wpAny (model prog w) A (getItem (.ref t) (.ref sl)) Q E s := by
  obtain ⟨os, hos, hcs, hds⟩ := id hs
  have hTs : s.TypeIs (.ref sl) "slice" := ⟨os, hos, hcs⟩
  unfold getItem
  try with_reducible refine wpAny_holding ?_
  first | refine wpAny_bind (wpAny_pure ?_) | skip
  refine wpAny_bind (wpAny_sequenceKey ht.typeIs (by decide) ?_)
  refine wpAny_bind (wpAny_callSpecial?_slot (name := Str.ofString "__getitem__") ht.typeIs PyProof.Rows.slot_tuple_getitem
    (wpAny_call_entry PyProof.Rows.slot_tuple_getitem ht.typeIs entry_tuple_getitem ?_ (args_tuple_getitem _ _)))
  show wpAny _ _ (Builtin.Tuple.tupleItemsOf (.ref t) >>= _) _ _ s
  refine wpAny_bind (tupleItemsOf_ ht ?_)
  refine wpAny_bind (wpAny_typeOf hTs ?_)
  rw [if_pos (by decide)]
  refine wpAny_bind (HT.sliceApplied_gen hs pl pu ?_)
  have hyes : (((HT.sIx items.size 0 lo : Nat) : Int) == 0 && (1 : Int) == 1 && (HT.sIx items.size items.size hi - HT.sIx items.size 0 lo) == items.size) = true := by
    rw [hw.1, hw.2]
    simp
  show wpAny _ _ (if (((HT.sIx items.size 0 lo : Nat) : Int) == 0 && (1 : Int) == 1 && (HT.sIx items.size items.size hi - HT.sIx items.size 0 lo) == items.size) = true then _ else _) _ _ s
  rw [if_pos hyes]
  unfold Builtin.Tuple.tupleIsExact
  refine wpAny_bind (wpAny_bind (wpAny_typeOf ht.typeIs (wpAny_pure ?_)))
  rw [if_pos (by decide)]
  exact wpAny_bind (wpAny_rule (wpAny_pure ⟨_, rfl, wpAny_pure h⟩))
/-- a slice, its ends as they are told -/
def rSlE (K : PySem.W.Frag) : V → Option Int → Option Int → Hp → VK → Prop := fun x lo hi H Q => ∃ F t z, Same F H ∧ Shal K F H t x ∧ slT t lo hi = some z ∧ ∀ v H', OutF K F H z v H' → Q v H'
theorem sl_tup_all {K : PySem.W.Frag} (hK : K = X.K) : SlR X (fun x lo hi H Q => ∃ a xs, x = .ref a ∧ SqT K H a xs ∧ (HT.sIx xs.length 0 lo = 0 ∧ HT.sIx xs.length xs.length hi = xs.length) ∧ Q (.ref a) H) := by
  subst hK
  intro pins s σ H x v vl vu lo hi sl Q I rx hs pl pu h
  obtain ⟨a, xs, rfl, hx, hw, q⟩ := h
  cases rx
  obtain ⟨its, r, ht, hz⟩ := I.tuple hx
  have hlen : its.toArray.size = xs.length := by rw [List.size_toArray]; exact r.length.symm
  refine ⟨"tuple", _, PyProof.Rows.slot_tuple_getitem.lookup, ht.typeIs, ?_⟩
  exact getItem_tuple_whole ht hs pl pu (by rw [hlen]; exact hw) ⟨.ref a, H, I, rfl, q⟩
theorem r_sl : SlR X (rSlE X.K) := by
  intro pins s σ H x v vl vu lo hi sl Q I rx hs pl pu h
  obtain ⟨F, t, z, hs', h1, h3, q⟩ := h
  cases t with
  | tup l =>
    cases h3
    cases h1 with | @tup _ pa xs ha ra =>
    by_cases hw : HT.sIx xs.length 0 lo = 0 ∧ HT.sIx xs.length xs.length hi = xs.length
    · refine sl_tup_all rfl pins s σ H _ v vl vu lo hi sl Q I rx hs pl pu ⟨pa, xs, rfl, Same.seqT hs' ha, hw, ?_⟩
      rw [← ra.length] at hw
      rw [cut_all l hw] at q
      exact q _ _ (outS (.tup ha ra))
    · exact sl_tup pins s σ H _ v vl vu lo hi sl Q I rx hs pl pu ⟨pa, xs, rfl, Same.seqT hs' ha, hw, fun p hp => q _ _ (.inr (.inr ⟨p, _, _, rfl, rfl, hp, rfl, ra.cutR lo hi⟩))⟩
  | lst l =>
    cases h3
    obtain ⟨pa, xs, rfl, ha, ra⟩ := h1
    exact sl_list pins s σ H _ v vl vu lo hi sl Q I rx hs pl pu ⟨pa, xs, rfl, SqL.of ha, fun p hp => q _ _ (.inr (.inl ⟨p, _, _, rfl, rfl, hp, rfl, ra.cutR lo hi⟩))⟩
  | str a =>
    cases h3
    cases h1 with | str _ a1 a2 =>
    refine sl_str pins s σ H _ v vl vu lo hi sl Q I rx hs pl pu ⟨_, rfl, ?_, ?_⟩
    · rw [strLen]; exact okLen_line a2
    · have e : cutS ⟨a.toArray⟩ lo hi = ⟨(Pv.cut a lo hi).toArray⟩ := by
        unfold cutS Pv.cut
        rw [strLen]
      rw [e]
      refine q _ _ (outS (.str _ (strOk_mem a1 fun d hd => ?_) ?_))
      · exact List.mem_of_mem_drop (List.mem_of_mem_take hd)
      · have : (Pv.cut a lo hi).length ≤ a.length := by
          unfold Pv.cut
          rw [List.length_take, List.length_drop]
          omega
        have := of_decide_eq_true a2
        exact decide_eq_true (by omega)
  | _ => cases h3
end
end Pv
end

section
set_option Elab.async false
set_option linter.all false
set_option maxRecDepth 100000
/-! PvG: xs[::-1], displays, built-ins of plain data. -/
namespace Pv
open PySem PySem.Spec PyProof.Rows L2

/-! ### t[::-1] -/
theorem places_rev (n : Nat) : Builtin.Slice.slicePlaces ((n : Int) - 1) (-1) (-1) = n := by
  unfold Builtin.Slice.slicePlaces
  rw [if_neg (by decide)]
  by_cases h : (n : Int) - 1 > -1
  · rw [if_pos h]
    have : ((n : Int) - 1 - -1 - 1) / (- -1) + 1 = n := by
      rw [show (- (-1 : Int)) = 1 from rfl, Int.ediv_one]
      omega
    rw [this]; omega
  · rw [if_neg h]; omega
theorem fm_congr {α β : Type} {f g : α → Option β} : ∀ {l : List α}, (∀ a ∈ l, f a = g a) → l.filterMap f = l.filterMap g
  | [], _ => rfl
  | a :: l, h => by
    rw [List.filterMap_cons, List.filterMap_cons, h a List.mem_cons_self, fm_congr fun b hb => h b (List.mem_cons_of_mem _ hb)]
theorem pick_rev (xs : Array Value) : ((List.range xs.size).filterMap fun (k : Nat) => xs[(((xs.size : Nat) : Int) - 1 + (k : Int) * (-1)).toNat]?).toArray = xs.toList.reverse.toArray := by
  congr 1
  have e : ∀ k : Nat, k < xs.size → xs[(((xs.size : Nat) : Int) - 1 + (k : Int) * (-1)).toNat]? = xs.toList.reverse[k]? := fun k hk => by
    rw [List.getElem?_reverse (by simpa using hk), Array.getElem?_toList]
    congr 1
    simp
    omega
  apply List.ext_getElem?
  intro i
  have e1 : (List.range xs.size).filterMap (fun (k : Nat) => xs[(((xs.size : Nat) : Int) - 1 + (k : Int) * (-1)).toNat]?) = (List.range xs.size).filterMap (fun (k : Nat) => xs.toList.reverse[k]?) := by
    exact fm_congr fun k hk => e k (List.mem_range.mp hk)
  rw [e1]
  have e2 : (List.range xs.size).filterMap (fun (k : Nat) => xs.toList.reverse[k]?) = xs.toList.reverse := by
    have : xs.size = xs.toList.reverse.length := by simp
    rw [this]
    generalize xs.toList.reverse = l
    clear e e1 this
    induction l with
    | nil => rfl
    | cons a l ih =>
      rw [List.length_cons, List.range_succ_eq_map, List.filterMap_cons]
      simp only [List.getElem?_cons_zero, List.filterMap_map]
      congr 1
  rw [e2]
section
variable {prog : Program} {w : World} {A : Around} {E : Value → Shared → Prop} {s : Shared}
theorem sliceApplied_rev {sl : Addr} {vl vu vs : Value} {n : Nat} {Q : Int × Int × Nat → Shared → Prop} (hs : s.heap.IsSliceOf sl vl vu vs) (pl : IsPart vl none) (pu : IsPart vu none) (ps : IsPart vs (some (-1)))
    (h : Q ((n : Int) - 1, -1, n) s) : wpAny (model prog w) A (Builtin.Slice.sliceApplied (.ref sl) (pure (n : Int))) Q E s := by
  obtain ⟨os, hos, hcs, hds⟩ := id hs
  unfold Builtin.Slice.sliceApplied Builtin.Slice.sliceFields
  refine wpAny_bind (wpAny_bind (wpAny_field hos hds (x := vl) rfl (wpAny_bind (wpAny_field hos hds (x := vu) rfl (wpAny_bind (wpAny_field hos hds (x := vs) rfl (wpAny_pure ?_)))))))
  refine wpAny_bind (HT.slicePart_ ps ?_)
  show wpAny _ _ (if ((-1 : Int) == 0) = true then _ else _) _ _ s
  rw [if_neg (by decide)]
  refine wpAny_bind (HT.slicePart_ pl (wpAny_bind (HT.slicePart_ pu (wpAny_bind (wpAny_pure ?_)))))
  show wpAny _ _ (pure (((n : Int) - 1), (-1 : Int), Builtin.Slice.slicePlaces ((n : Int) - 1) (-1) (-1))) _ _ s
  rw [places_rev]
  exact wpAny_pure h
theorem getItem_tuple_rev {t sl : Addr} {items : Array Value} {vl vu vs : Value} {Q : Value → Shared → Prop} (ht : IsTup s.heap t items) (hs : s.heap.IsSliceOf sl vl vu vs) (pl : IsPart vl none) (pu : IsPart vu none) (ps : IsPart vs (some (-1)))
    (h : Q (.ref s.heap.objs.size) { s with heap := s.heap.push { cls := .type "tuple", data := .seq items.toList.reverse.toArray } }) (hsz : items.size ≤ sizeLine) : wpAny (model prog w) A (getItem (.ref t) (.ref sl)) Q E s := by
  have htake : sizeOk (.seq items.toList.reverse.toArray) := by
    show items.toList.reverse.toArray.size ≤ sizeLine
    simpa using hsz
  obtain ⟨os, hos, hcs, hds⟩ := id hs
  have hTs : s.TypeIs (.ref sl) "slice" := ⟨os, hos, hcs⟩
  unfold getItem
  try with_reducible refine wpAny_holding ?_
  first | refine wpAny_bind (wpAny_pure ?_) | skip
  refine wpAny_bind (wpAny_sequenceKey ht.typeIs (by decide) ?_)
  refine wpAny_bind (wpAny_callSpecial?_slot (name := Str.ofString "__getitem__") ht.typeIs PyProof.Rows.slot_tuple_getitem
    (wpAny_call_entry PyProof.Rows.slot_tuple_getitem ht.typeIs entry_tuple_getitem ?_ (args_tuple_getitem _ _)))
  show wpAny _ _ (Builtin.Tuple.tupleItemsOf (.ref t) >>= _) _ _ s
  refine wpAny_bind (tupleItemsOf_ ht ?_)
  refine wpAny_bind (wpAny_typeOf hTs ?_)
  rw [if_pos (by decide)]
  refine wpAny_bind (sliceApplied_rev hs pl pu ps ?_)
  have hno : ¬ (((items.size : Int) - 1 == 0 && (-1 : Int) == 1 && items.size == items.size) = true) := by
    simp
  show wpAny _ _ (if ((items.size : Int) - 1 == 0 && (-1 : Int) == 1 && items.size == items.size) = true then _ else _) _ _ s
  rw [if_neg hno, pick_rev]
  first
    | exact wpAny_bind (m := Builtin.Tuple.tupleExact _) (wpAny_newObj_type (wpAny_pure ⟨_, rfl, wpAny_pure h⟩) htake)
    | exact wpAny_bind (m := Builtin.Tuple.tupleExact _) (wpAny_newObj_type (wpAny_bind (wpAny_pure (wpAny_pure ⟨_, rfl, wpAny_pure h⟩))) htake)
    | exact wpAny_bind (wpAny_bind (m := Builtin.Tuple.tupleExact _) (wpAny_newObj_type (wpAny_pure (wpAny_pure ⟨_, rfl, wpAny_pure h⟩)) htake))
    | exact wpAny_bind (wpAny_bind (m := Builtin.Tuple.tupleExact _) (wpAny_newObj_type (wpAny_pure ⟨_, rfl, wpAny_pure h⟩) htake))
end
section
variable {A : Act} {kd : List Kd} {X : Cx}
/-- e[::-1] -/
theorem p_rev {e : Expr} {te : TE} {k : Nat} {p1 p2 p3 pos : Pos} (he : PE X e te) : PE X (.Subscript e (.Slice none none (some (.UnaryOp .USub (.Constant (.int 1) k p1) p2)) p3) pos) (tUn (rT1 X.K revT) te) := by
  refine ⟨fun pins s σ H Q I h => ?_⟩
  refine Subscript_ (thn (he.run pins s σ H _ I h) fun v s1 ⟨x, H1, I1, r1, q1⟩ => ?_)
  obtain ⟨F, t, z, hs', hsh, h3, q⟩ := q1
  have hst : PO X (some (.UnaryOp .USub (.Constant (.int 1) k p1) p2)) (tPart (tUn (rU fun i => .int (-i)) (tC (.int 1)))) := po_some (pe_un un_neg pe_int)
  refine wpAny_Slice (thn (po_none.run pins s1 σ H1 (fun o H2 => o = none ∧ H2 = H1) I1 ⟨rfl, rfl⟩) fun vl s2 ⟨l, H2, I2, pl, el, e2⟩ => ?_)
  subst el e2
  refine thn (po_none.run pins s2 σ H2 (fun o H3 => o = none ∧ H3 = H2) I2 ⟨rfl, rfl⟩) fun vu s3 ⟨u, H3, I3, pu, eu, e3⟩ => ?_
  subst eu e3
  refine thn (hst.run pins s3 σ H3 (fun o H4 => o = some (-1) ∧ H4 = H3) I3 ⟨1, rfl, -1, rfl, rfl, rfl⟩) fun vs s4 ⟨o, H4, I4, ps, eo, e4⟩ => ?_
  subst eo e4
  have I5 : Inv X pins σ H4 { s4 with heap := s4.heap.push { cls := .type "slice", data := .fields #[vl, vu, vs] } } := I4.kept (t' := s4.toks) fun b ob q => Heap.get?_push_of_some _ q
  cases t with
  | lst l =>
    cases h3
    obtain ⟨a, xs, rfl, ha, ra⟩ := hsh
    cases r1
    obtain ⟨its, r, ht, hz⟩ := I5.list (SqL.of ha)
    have hlen := r.length
    show wpAny (model X.prog X.w) X.A (subscriptTail e (.Slice none none (some (.UnaryOp .USub (.Constant (.int 1) k p1) p2)) p3) (.ref a) (.ref s4.heap.objs.size)) (EP X pins σ Q) X.xe { s4 with heap := s4.heap.push { cls := .type "slice", data := .fields #[vl, vu, vs] } }
    refine tail_any (ops := [.ref a, .ref s4.heap.objs.size]) ht.isList.typeIs (PySem.slot_list_getitem.lookup) ?_ (by with_unfolding_all rfl)
    refine wpAny_getItem_list_slice ht.isList (Heap.IsSliceOf.new _ vl vu vs) pl pu ps (by decide) ?_ (by rw [List.size_toArray]; omega)
    rw [PySem.W.krv_pick]
    refine ⟨.ref _, _, I5.laid (t' := s4.toks) (o := .lst xs.reverse) (fun b ob q => Heap.get?_push_of_some _ q) (Nat.le_refl _) ?_, rfl, q _ _ (.inr (.inl ⟨_, _, _, rfl, rfl, I5.hok.fresh (Nat.le_refl _), rfl, ra.reverse⟩))⟩
    exact ⟨by rw [List.length_reverse]; exact hz, _, 0, r.reverse, Heap.get?_push_size _ rfl⟩
  | tup l =>
    cases h3
    cases hsh with | @tup _ a xs ha ra =>
    cases r1
    obtain ⟨its, r, ht, hz⟩ := I5.tuple (Same.seqT hs' ha)
    have hlen := r.length
    show wpAny (model X.prog X.w) X.A (subscriptTail e (.Slice none none (some (.UnaryOp .USub (.Constant (.int 1) k p1) p2)) p3) (.ref a) (.ref s4.heap.objs.size)) (EP X pins σ Q) X.xe { s4 with heap := s4.heap.push { cls := .type "slice", data := .fields #[vl, vu, vs] } }
    refine tail_any (ops := [.ref a, .ref s4.heap.objs.size]) ht.typeIs (PyProof.Rows.slot_tuple_getitem.lookup) ?_ (by with_unfolding_all rfl)
    refine getItem_tuple_rev ht (Heap.IsSliceOf.new _ vl vu vs) pl pu ps ?_ (by rw [List.size_toArray]; omega)
    refine ⟨.ref _, _, I5.laid (t' := s4.toks) (o := .tup xs.reverse) (fun b ob q => Heap.get?_push_of_some _ q) (Nat.le_refl _) ?_, rfl, q _ _ (.inr (.inr ⟨_, _, _, rfl, rfl, I5.hok.fresh (Nat.le_refl _), rfl, ra.reverse⟩))⟩
    exact ⟨by rw [List.length_reverse]; exact hz, _, r.reverse, IsTup.new _ _⟩
  | _ => cases h3
end
end Pv
end

section
set_option Elab.async false
set_option linter.all false
set_option maxRecDepth 100000
/-! PvH: displays, tests, and, or, not, if-else. -/
namespace Pv
open PySem PySem.Spec PyProof.Rows L2

section
variable {A : Act} {kd : List Kd} {X : Cx}
theorem evEs_tup {C : Cal} {as : List Ir} {env env' : Env} {t : T} (h : evE C (.tup as) env = some (t, env')) : ∃ ts, evEs C as env = some (ts, env') ∧ t = .tup ts := by
  unfold evE at h
  obtain ⟨⟨ts, e1⟩, h1, h2⟩ := bind_some h
  cases h2
  exact ⟨ts, h1, rfl⟩
theorem evEs_lst {C : Cal} {as : List Ir} {env env' : Env} {t : T} (h : evE C (.lst as) env = some (t, env')) : ∃ ts, evEs C as env = some (ts, env') ∧ t = .lst ts := by
  unfold evE at h
  obtain ⟨⟨ts, e1⟩, h1, h2⟩ := bind_some h
  cases h2
  exact ⟨ts, h1, rfl⟩
theorem evEs_len {C : Cal} : ∀ {as : List Ir} {env env' : Env} {ts : List T}, evEs C as env = some (ts, env') → ts.length = as.length
  | [], _, _, _, h => by
    have h : some (([] : List T), _) = some (_, _) := h
    cases h; rfl
  | x :: as, env, env', ts, h => by
    obtain ⟨t, e1, us, h1, h2, rfl⟩ := evEs_cons h
    rw [List.length_cons, List.length_cons, evEs_len h2]
/-- is the name of a value, or no name -/
def vaK (kd : List Kd) : Ir → Bool
  | .nm i => match kd[i]? with | some (.own 0) => true | _ => false
  | _ => true
theorem KR.val {x : Ir} {k : Kd} (kr : KR kd x k) (h : vaK kd x = true) : k = .own 0 := by
  rcases kr with rfl | ⟨i, rfl, rfl, hi⟩
  · rfl
  · have h : (match kd[i]? with | some (.own 0) => true | _ => false) = true := h
    split at h
    · exact absurd (by assumption) hi
    · cases h
theorem SR.rep {F H : Hp} {env : Env} {σ : L2.St} {tm : List Ent} {t : T} {v : V} (R : SR A kd F H env σ tm) {j : Nat} (h : tm[j]? = some ⟨.own 0, t, v⟩) : Rep A.K F t v := by
  refine R.lay.rep (j := (slotsOf kd env σ).length + j) ?_
  rw [List.getElem?_append_right (by omega)]
  rw [show (slotsOf kd env σ).length + j - (slotsOf kd env σ).length = j by omega]
  exact h
theorem SR.reps {F H : Hp} {env : Env} {σ : L2.St} {tm es : List Ent} {xs : List Ir} {ts : List T} (R : SR A kd F H env σ (tm ++ es)) (ks : KRs kd xs ts es) (va : xs.all (vaK kd) = true) : Reps A.K F ts (es.map (·.v)) := by
  induction ks generalizing tm with
  | nil => exact .nil
  | @cons x xs t ts k v es h1 h2 ih =>
    have va' : vaK kd x = true ∧ xs.all (vaK kd) = true := by simpa using va
    have hk := h1.val va'.1
    subst hk
    refine .cons (R.rep (j := tm.length) (by simp)) (ih (tm := tm ++ [⟨.own 0, t, v⟩]) (by simpa using R) va'.2)
theorem s_tup {as : List Ir} {es : List Expr} {k : Nat} {pos : Pos} (ha : PA X es (tRs A kd as)) (va : as.all (vaK kd) = true) (hl : okLen as.length = true) : PE X (.Tuple es k pos) (tF A kd 1 (.tup as)) :=
  PE.imp (pe_tup ha) fun σ H Q ⟨F, env, tm, t, env', R, n, ev, q⟩ => by
    obtain ⟨ts, h1, rfl⟩ := evEs_tup ev
    refine ⟨F, env, tm, ts, env', R, n, h1, fun es' F1 H1 ks R1 s1 => ⟨?_, fun p hp => ?_⟩⟩
    · rw [List.length_map, ← ks.len.2, evEs_len h1]; exact okLen_line hl
    · obtain ⟨F3, R4, s3⟩ := R1.pops.fin1 (.inr (.inr ⟨p, _, ts, rfl, rfl, hp, rfl, R1.reps ks va⟩))
      exact q _ F3 _ R4 (s1.trans s3)
theorem s_lst {as : List Ir} {es : List Expr} {pos : Pos} (ha : PA X es (tRs A kd as)) (va : as.all (vaK kd) = true) (hl : okLen as.length = true) : PE X (.List es pos) (tF A kd 1 (.lst as)) :=
  PE.imp (pe_lst ha) fun σ H Q ⟨F, env, tm, t, env', R, n, ev, q⟩ => by
    obtain ⟨ts, h1, rfl⟩ := evEs_lst ev
    refine ⟨F, env, tm, ts, env', R, n, h1, fun es' F1 H1 ks R1 s1 => ⟨?_, fun p hp => ?_⟩⟩
    · rw [List.length_map, ← ks.len.2, evEs_len h1]; exact okLen_line hl
    · obtain ⟨F3, R4, s3⟩ := R1.pops.fin1 (.inr (.inl ⟨p, _, ts, rfl, rfl, hp, rfl, R1.reps ks va⟩))
      exact q _ F3 _ R4 (s1.trans s3)

/-! ### truth -/
theorem isEmpty_len {α β : Type} {l : List α} {m : List β} (h : l.length = m.length) : l.isEmpty = m.isEmpty := by
  cases l <;> cases m <;> first | rfl | simp at h
theorem tru_of {K : PySem.W.Frag} {F H : Hp} {t : T} {v : V} (h : Shal K F H t v) (s : Same F H) : TruV K v H (truth t) := by
  cases t with
  | lst l =>
    obtain ⟨a, xs, rfl, h1, h2⟩ := h
    refine .inl ⟨xs, SqL.of h1, ?_⟩
    show (!l.isEmpty) = _
    rw [isEmpty_len h2.length]
  | tup l =>
    cases h with | @tup _ a xs h1 h2 =>
    refine .inr (.inl ⟨xs, Same.seqT s h1, ?_⟩)
    show (!l.isEmpty) = _
    rw [isEmpty_len h2.length]
  | str a =>
    cases h with | str _ a1 a2 =>
    refine ⟨by rw [strLen]; exact okLen_line a2, ?_⟩
    rw [strLen]
    show (!a.isEmpty) = _
    cases a with
    | nil => rfl
    | cons c a =>
      show true = _
      have : ((((c :: a).length : Nat) : Int) != 0) = true := by
        rw [bne_iff_ne]
        rw [List.length_cons]
        omega
      rw [this]
  | non => cases h; rfl
  | bl b => cases h; rfl
  | int i => cases h; rfl
  | dct _ _ => cases h
  | set _ => cases h
/-- an expression whose truth is asked by its value -/
theorem s_test {x : Ir} {e : Expr} (h : PE X e (tR A kd x)) (rd : rdK kd x = true) (hK : A.K = X.K) (he : ∀ whole, isTrue e X.env whole = (do let v ← whole; standAt e.pos; holding [v] (truthy v))) : PT X e (tT A kd x) :=
  PT.imp (pt_truth h he) fun σ H Q ⟨F, env, tm, t, env', R, n, ev, q⟩ => by
    refine ⟨F, env, tm, t, env', R, n, ev, fun k v F1 H1 kr R1 s1 => ⟨truth t, ?_, q F1 H1 R1.pops s1⟩⟩
    rw [← hK]
    exact tru_of (R1.shalR (j := tm.length) (by simp) kr rd) R1.lay.fh
theorem evE_not {C : Cal} {a : Ir} {env env' : Env} {t : T} (h : evE C (.not a) env = some (t, env')) : ∃ x, evE C a env = some (x, env') ∧ t = .bl (!truth x) := by
  unfold evE at h
  obtain ⟨⟨x, e1⟩, h1, h2⟩ := bind_some h
  cases h2
  exact ⟨x, h1, rfl⟩
theorem s_not {a : Ir} {e : Expr} {pos : Pos} (h : PE X e (tR A kd a)) (rd : rdK kd a = true) (hK : A.K = X.K) : PE X (.UnaryOp .Not e pos) (tF A kd 1 (.not a)) :=
  PE.imp (pe_notT h) fun σ H Q ⟨F, env, tm, t, env', R, n, ev, q⟩ => by
    obtain ⟨x, h1, rfl⟩ := evE_not ev
    refine ⟨F, env, tm, x, env', R, n, h1, fun k v F1 H1 kr R1 s1 => ⟨truth x, ?_, ?_⟩⟩
    · rw [← hK]
      exact tru_of (R1.shalR (j := tm.length) (by simp) kr rd) R1.lay.fh
    · obtain ⟨F3, R4, s3⟩ := R1.pops.fin1 (z := .bl (!truth x)) (v := .bl (!truth x)) (outS (.bl _))
      exact q _ F3 _ R4 (s1.trans s3)
theorem t_not {a : Ir} {e : Expr} {pos : Pos} (h : PT X e (tT A kd a)) : PT X (.UnaryOp .Not e pos) (tT A kd (.not a)) :=
  PT.imp (pt_not h) fun σ H Q ⟨F, env, tm, t, env', R, n, ev, q⟩ => by
    obtain ⟨x, h1, rfl⟩ := evE_not ev
    exact ⟨F, env, tm, x, env', R, n, h1, fun F1 H1 R1 s1 => q F1 H1 R1 s1⟩
theorem evE_and {C : Cal} {a b : Ir} {env env' : Env} {t : T} (h : evE C (.and a b) env = some (t, env')) : ∃ x env1, evE C a env = some (x, env1) ∧ ((truth x = true ∧ evE C b env1 = some (t, env')) ∨ (truth x = false ∧ t = x ∧ env' = env1)) := by
  unfold evE at h
  obtain ⟨⟨x, e1⟩, h1, h2⟩ := bind_some h
  refine ⟨x, e1, h1, ?_⟩
  have h2 : (if truth x = true then evE C b e1 else some (x, e1)) = some (t, env') := h2
  by_cases hx : truth x = true
  · rw [if_pos hx] at h2
    exact .inl ⟨hx, h2⟩
  · rw [if_neg hx] at h2
    have hy : truth x = false := by simpa using hx
    cases h2
    exact .inr ⟨hy, rfl, rfl⟩
theorem evE_or {C : Cal} {a b : Ir} {env env' : Env} {t : T} (h : evE C (.or a b) env = some (t, env')) : ∃ x env1, evE C a env = some (x, env1) ∧ ((truth x = false ∧ evE C b env1 = some (t, env')) ∨ (truth x = true ∧ t = x ∧ env' = env1)) := by
  unfold evE at h
  obtain ⟨⟨x, e1⟩, h1, h2⟩ := bind_some h
  refine ⟨x, e1, h1, ?_⟩
  have h2 : (if truth x = true then some (x, e1) else evE C b e1) = some (t, env') := h2
  by_cases hx : truth x = true
  · rw [if_pos hx] at h2
    cases h2
    exact .inr ⟨hx, rfl, rfl⟩
  · rw [if_neg hx] at h2
    exact .inl ⟨by simpa using hx, h2⟩
theorem NoT.l {a b c : Ir} {tm : List Ent} (n : NoT A c tm) (h : ∀ i, tchE A.io i c = (tchE A.io i a || tchE A.io i b)) : NoT A a tm ∧ NoT A b tm :=
  ⟨fun e he i z => (Bool.or_eq_false_iff.mp ((h i).symm.trans (n e he i z))).1, fun e he i z => (Bool.or_eq_false_iff.mp ((h i).symm.trans (n e he i z))).2⟩
theorem s_and {a b : Ir} {e f : Expr} {rest : List Expr} {pos : Pos} (ha : PE X e (tF A kd 0 a)) (hb : PE X (.BoolOp .And (f :: rest) pos) (tF A kd 0 b)) (hK : A.K = X.K) : PE X (.BoolOp .And (e :: f :: rest) pos) (tF A kd 0 (.and a b)) :=
  PE.imp (pe_andT ha hb) fun σ H Q ⟨F, env, tm, t, env', R, n, ev, q⟩ => by
    obtain ⟨x, env1, h1, h2⟩ := evE_and ev
    obtain ⟨n1, n2⟩ := n.l (a := a) (b := b) fun _ => rfl
    refine ⟨F, env, tm, x, env1, R, n1, h1, fun v F1 H1 R1 s1 => ⟨truth x, ?_, ?_⟩⟩
    · rw [← hK]
      exact tru_of (Shal.of (R1.rep (j := tm.length) (by simp)) R1.lay.fh) R1.lay.fh
    · rcases h2 with ⟨k1, h2⟩ | ⟨k1, rfl, rfl⟩
      · rw [if_pos k1]
        exact ⟨F1, env1, tm, t, env', R1.pops, n2, h2, fun v F2 H2 R2 s2 => q v F2 H2 R2 (s1.trans s2)⟩
      · rw [if_neg (by rw [k1]; exact Bool.false_ne_true)]
        exact q v F1 H1 R1 s1
theorem s_or {a b : Ir} {e f : Expr} {rest : List Expr} {pos : Pos} (ha : PE X e (tF A kd 0 a)) (hb : PE X (.BoolOp .Or (f :: rest) pos) (tF A kd 0 b)) (hK : A.K = X.K) : PE X (.BoolOp .Or (e :: f :: rest) pos) (tF A kd 0 (.or a b)) :=
  PE.imp (pe_orT ha hb) fun σ H Q ⟨F, env, tm, t, env', R, n, ev, q⟩ => by
    obtain ⟨x, env1, h1, h2⟩ := evE_or ev
    obtain ⟨n1, n2⟩ := n.l (a := a) (b := b) fun _ => rfl
    refine ⟨F, env, tm, x, env1, R, n1, h1, fun v F1 H1 R1 s1 => ⟨truth x, ?_, ?_⟩⟩
    · rw [← hK]
      exact tru_of (Shal.of (R1.rep (j := tm.length) (by simp)) R1.lay.fh) R1.lay.fh
    · rcases h2 with ⟨k1, h2⟩ | ⟨k1, rfl, rfl⟩
      · rw [if_neg (by rw [k1]; exact Bool.false_ne_true)]
        exact ⟨F1, env1, tm, t, env', R1.pops, n2, h2, fun v F2 H2 R2 s2 => q v F2 H2 R2 (s1.trans s2)⟩
      · rw [if_pos k1]
        exact q v F1 H1 R1 s1
theorem PW.imp {e : Expr} {t t' : TT} (h : PW X e t) (i : ∀ σ H Q, t' σ H Q → t σ H Q) : PW X e t' := ⟨fun w pins s σ H Q I q => h.run w pins s σ H Q I (i σ H Q q)⟩
theorem t_and {a b : Ir} {e f : Expr} {rest : List Expr} {pos : Pos} (ha : PT X e (tT A kd a)) (hb : PW X (.BoolOp .And (f :: rest) pos) (tT A kd b)) : PW X (.BoolOp .And (e :: f :: rest) pos) (tT A kd (.and a b)) :=
  PW.imp (pw_and ha hb) fun σ H Q ⟨F, env, tm, t, env', R, n, ev, q⟩ => by
    obtain ⟨x, env1, h1, h2⟩ := evE_and ev
    obtain ⟨n1, n2⟩ := n.l (a := a) (b := b) fun _ => rfl
    refine ⟨F, env, tm, x, env1, R, n1, h1, fun F1 H1 R1 s1 => ?_⟩
    rcases h2 with ⟨k1, h2⟩ | ⟨k1, rfl, rfl⟩
    · rw [if_pos k1]
      exact ⟨F1, env1, tm, t, env', R1, n2, h2, fun F2 H2 R2 s2 => q F2 H2 R2 (s1.trans s2)⟩
    · rw [if_neg (by rw [k1]; exact Bool.false_ne_true)]
      have := q F1 H1 R1 s1
      rw [k1] at this
      exact this
theorem t_or {a b : Ir} {e f : Expr} {rest : List Expr} {pos : Pos} (ha : PT X e (tT A kd a)) (hb : PW X (.BoolOp .Or (f :: rest) pos) (tT A kd b)) : PW X (.BoolOp .Or (e :: f :: rest) pos) (tT A kd (.or a b)) :=
  PW.imp (pw_or ha hb) fun σ H Q ⟨F, env, tm, t, env', R, n, ev, q⟩ => by
    obtain ⟨x, env1, h1, h2⟩ := evE_or ev
    obtain ⟨n1, n2⟩ := n.l (a := a) (b := b) fun _ => rfl
    refine ⟨F, env, tm, x, env1, R, n1, h1, fun F1 H1 R1 s1 => ?_⟩
    rcases h2 with ⟨k1, h2⟩ | ⟨k1, rfl, rfl⟩
    · rw [if_neg (by rw [k1]; exact Bool.false_ne_true)]
      exact ⟨F1, env1, tm, t, env', R1, n2, h2, fun F2 H2 R2 s2 => q F2 H2 R2 (s1.trans s2)⟩
    · rw [if_pos k1]
      have := q F1 H1 R1 s1
      rw [k1] at this
      exact this
theorem evE_ite {C : Cal} {c a b : Ir} {env env' : Env} {t : T} (h : evE C (.ite c a b) env = some (t, env')) : ∃ x env1, evE C c env = some (x, env1) ∧ evE C (if truth x = true then a else b) env1 = some (t, env') := by
  unfold evE at h
  obtain ⟨⟨x, e1⟩, h1, h2⟩ := bind_some h
  refine ⟨x, e1, h1, ?_⟩
  have h2 : (if truth x = true then evE C a e1 else evE C b e1) = some (t, env') := h2
  split at h2
  · rw [if_pos (by assumption)]; exact h2
  · rw [if_neg (by assumption)]; exact h2
theorem s_ite {d : Nat} {c a b : Ir} {ec ea eb : Expr} {pos : Pos} (hc : PT X ec (tT A kd c)) (ha : PE X ea (tF A kd d a)) (hb : PE X eb (tF A kd d b)) : PE X (.IfExp ec ea eb pos) (tF A kd d (.ite c a b)) :=
  PE.imp (pe_ifExp hc ha hb) fun σ H Q ⟨F, env, tm, t, env', R, n, ev, q⟩ => by
    obtain ⟨x, env1, h1, h2⟩ := evE_ite ev
    have n0 : ∀ e ∈ tm, ∀ i, e.k = .al i → (tchE A.io i c || tchE A.io i a || tchE A.io i b) = false := n
    have n1 : NoT A c tm ∧ NoT A a tm ∧ NoT A b tm := by
      refine ⟨fun e he i z => ?_, fun e he i z => ?_, fun e he i z => ?_⟩ <;>
        (have q1 := Bool.or_eq_false_iff.mp (n0 e he i z)
         have q2 := Bool.or_eq_false_iff.mp q1.1)
      · exact q2.1
      · exact q2.2
      · exact q1.2
    refine ⟨F, env, tm, x, env1, R, n1.1, h1, fun F1 H1 R1 s1 => ?_⟩
    by_cases hx : truth x = true
    · rw [if_pos hx] at h2
      show if truth x = true then _ else _
      rw [if_pos hx]
      exact ⟨F1, env1, tm, t, env', R1, n1.2.1, h2, fun v F2 H2 R2 s2 => q v F2 H2 R2 (s1.trans s2)⟩
    · rw [if_neg hx] at h2
      show if truth x = true then _ else _
      rw [if_neg hx]
      exact ⟨F1, env1, tm, t, env', R1, n1.2.2, h2, fun v F2 H2 R2 s2 => q v F2 H2 R2 (s1.trans s2)⟩
end
end Pv
end

section
set_option Elab.async false
set_option linter.all false
set_option maxRecDepth 100000
/-! PvI: lists changed in place. -/
namespace Pv
open PySem PySem.Spec PyProof.Rows L2

section
variable {K : PySem.W.Frag} {G F F' H H' : Hp} {es : List Ent}
/-- the last entry is taken in by the entry i -/
theorem Lay.absorb {d d2 : Nat} {i : Nat} {k : Kd} {t u : T} {v w : V} (L : Lay K G F H (es ++ [⟨.own d2, u, w⟩])) (h : es[i]? = some ⟨k, t, v⟩) (hk : k = .own d ∨ k = .io d) (na : NoAl es i) :
    ∃ al bl, OwnR K F H d t v al ∧ OwnR K F H d2 u w bl ∧ (al ++ bl).Nodup ∧ (∀ a ∈ al ++ bl, (∃ xs, H a = some (.lst xs)) ∧ F a = none ∧ G a = none) ∧
      ∀ H' t' al', OwnR K F H' d t' v al' → al'.Nodup → (∀ a ∈ al', a ∈ al ++ bl) → (∀ a, a ∉ al ++ bl → H' a = H a) → Lay K G F H' (es.set i ⟨k, t', v⟩) := by
  obtain ⟨c, q⟩ := L.col
  obtain ⟨al, r, nd, hc⟩ := q i _ (getL _ h)
  obtain ⟨bl, r2, nd2, hc2⟩ := q es.length ⟨.own d2, u, w⟩ (by simp)
  have hil := lt_of_get h
  have r1 : OwnR K F H d t v al := by rcases hk with rfl | rfl <;> exact r
  have r2 : OwnR K F H d2 u w bl := r2
  have dj : ∀ a ∈ al, a ∉ bl := fun a ha hb => by
    have e1 := (hc a ha).1
    have e2 := (hc2 a hb).1
    rw [e1] at e2
    injection e2 with e2
    omega
  have fact : ∀ a ∈ al ++ bl, (∃ xs, H a = some (.lst xs)) ∧ F a = none ∧ G a = none := fun a ha => by
    rcases List.mem_append.mp ha with ha | ha
    · exact ⟨OwnR.there d r1 a ha, OwnR.none_at d r1 a ha, (hc a ha).2⟩
    · exact ⟨OwnR.there d2 r2 a ha, OwnR.none_at d2 r2 a ha, (hc2 a ha).2⟩
  refine ⟨al, bl, r1, r2, List.nodup_append.mpr ⟨nd, nd2, fun a ha b hb e => dj a ha (e ▸ hb)⟩, fact, fun H' t' al' r' nd' sub out => ?_⟩
  have keepF : ∀ (X : Hp), (∀ a ∈ al ++ bl, X a = none) → Same X H → Same X H' := fun X hx sx b o e => by
    rw [out b fun hb => by rw [hx b hb] at e; cases e]
    exact sx b o e
  refine ⟨keepF F (fun a ha => (fact a ha).2.1) L.fh, keepF G (fun a ha => (fact a ha).2.2) L.gh, ⟨fun a => if a ∈ al' then some i else if a ∈ al ++ bl then none else c a, fun j e' hj => ?_⟩, fun j i' t v hj => ?_⟩
  · rcases getS hj with ⟨rfl, hl, rfl⟩ | ⟨hne, h4⟩
    · refine ⟨al', ?_, nd', fun a ha => ⟨by simp only [if_pos ha], (fact a (sub a ha)).2.2⟩⟩
      rcases hk with rfl | rfl <;> exact r'
    · obtain ⟨al2, r3, nd3, hc3⟩ := q j e' (getL _ h4)
      have n1 : ∀ a ∈ al2, a ∉ al ++ bl := fun a ha hm => by
        have e1 := (hc3 a ha).1
        rcases List.mem_append.mp hm with hm | hm
        · have e2 := (hc a hm).1
          rw [e1] at e2
          injection e2 with e2
          exact hne e2
        · have e2 := (hc2 a hm).1
          rw [e1] at e2
          injection e2 with e2
          have := lt_of_get h4
          omega
      refine ⟨al2, r3.mono (Same.refl F) fun a ha => ⟨out a (n1 a ha), (r3.there a ha).2⟩, nd3, fun a ha => ⟨?_, (hc3 a ha).2⟩⟩
      have n2 : a ∉ al' := fun z => n1 a ha (sub a z)
      simp only [if_neg n2, if_neg (n1 a ha)]
      exact (hc3 a ha).1
  · rcases getS hj with ⟨rfl, hl, h4⟩ | ⟨hne, h4⟩
    · have h5 := congrArg Ent.k h4
      rcases hk with rfl | rfl <;> cases h5
    · obtain ⟨hij, k', h5, h6⟩ := L.ali j i' t v (getL _ h4)
      have hlt : i' < es.length := Nat.lt_trans hij (lt_of_get h4)
      rw [List.getElem?_append_left hlt] at h5
      refine ⟨hij, k', getS_ne ?_ h5, h6⟩
      rintro rfl
      exact na j t v h4

theorem OwnL.snoc {R : T → V → List Addr → Prop} {t : T} {v : V} {b : List Addr} (h : R t v b) : ∀ {ts : List T} {vs : List V} {as : List Addr}, OwnL R ts vs as → OwnL R (ts ++ [t]) (vs ++ [v]) (as ++ b)
  | [], [], as, e => by
    have e : as = [] := e
    subst e
    exact ⟨b, [], h, rfl, by simp⟩
  | [], _ :: _, _, e => e.elim
  | _ :: _, [], _, e => e.elim
  | _ :: ts, _ :: vs, as, e => by
    obtain ⟨a1, a2, h1, h2, rfl⟩ := e
    exact ⟨a1, a2 ++ b, h1, OwnL.snoc h h2, by rw [List.append_assoc]⟩
/-- the item j exchanged -/
theorem OwnL.upd {R : T → V → List Addr → Prop} : ∀ {ts : List T} {vs : List V} {as : List Addr} {j : Nat} {u : T}, OwnL R ts vs as → ts[j]? = some u →
    ∃ w r1 r2 rj, vs[j]? = some w ∧ as = r1 ++ rj ++ r2 ∧ R u w rj ∧ ∀ (R' : T → V → List Addr → Prop) (u' : T) (w' : V) (rj' : List Addr), R' u' w' rj' → (∀ t v al, (∀ a ∈ al, a ∈ r1 ++ r2) → R t v al → R' t v al) → OwnL R' (ts.set j u') (vs.set j w') (r1 ++ rj' ++ r2)
  | [], _, _, _, _, _, h => by simp at h
  | _ :: _, [], _, _, _, e, _ => e.elim
  | t :: ts, v :: vs, as, 0, u, e, h => by
    obtain ⟨a1, a2, h1, h2, rfl⟩ := e
    simp at h
    subst h
    refine ⟨v, [], a2, a1, rfl, by simp, h1, fun R' u' w' rj' hr k => ?_⟩
    exact ⟨rj', a2, hr, OwnL.mono h2 fun t v al hs q => k t v al (fun a ha => by simpa using hs a ha) q, by simp⟩
  | t :: ts, v :: vs, as, j + 1, u, e, h => by
    obtain ⟨a1, a2, h1, h2, rfl⟩ := e
    obtain ⟨w, r1, r2, rj, e1, e2, e3, k⟩ := OwnL.upd h2 (j := j) (u := u) (by simpa using h)
    subst e2
    refine ⟨w, a1 ++ r1, r2, rj, by simpa using e1, by simp, e3, fun R' u' w' rj' hr kk => ?_⟩
    refine ⟨a1, r1 ++ rj' ++ r2, kk t v a1 (fun a ha => by simp [ha]) h1, k R' u' w' rj' hr fun t v al hs q => kk t v al (fun a ha => ?_) q, by simp⟩
    have := hs a ha
    simp at this ⊢
    rcases this with z | z
    · exact .inr (.inl z)
    · exact .inr (.inr z)
theorem OwnR.lstv {d : Nat} {ts : List T} {v : V} {al : List Addr} (h : OwnR K F H (d + 1) (.lst ts) v al) : ∃ a xs r, v = .ref a ∧ H a = some (.lst xs) ∧ F a = none ∧ OwnL (OwnR K F H d) ts xs r ∧ al = a :: r := h
end

section
variable {A : Act} {kd : List Kd} {F F' H H' : Hp} {env : Env} {σ : L2.St} {tm es : List Ent}
theorem slotsOf_noal (nal : ∀ k ∈ kd, k.nm = true) {j i : Nat} {t : T} {v : V} : (slotsOf kd env σ)[j]? ≠ some ⟨.al i, t, v⟩ := fun h => by
  rcases slotsOf_inv h with e | ⟨e, _, _⟩
  · have := congrArg Ent.k e
    cases this
  · have := nal _ (List.mem_of_getElem? e)
    cases this
theorem SR.noAl (R : SR A kd F H env σ tm) {i : Nat} (h : ∀ e ∈ tm, e.k ≠ .al i) : NoAl (slotsOf kd env σ ++ tm) i := fun j t v hj => by
  by_cases hl : j < (slotsOf kd env σ).length
  · rw [List.getElem?_append_left hl] at hj
    exact slotsOf_noal R.nal hj
  · rw [List.getElem?_append_right (by omega)] at hj
    exact h _ (List.mem_of_getElem? hj) rfl
theorem getV_set {env : Env} {i j : Nat} {o : Option T} : getV (env.set i o) j = if i = j ∧ i < env.length then o else getV env j := by
  unfold getV
  rw [List.getElem?_set]
  by_cases h : i = j
  · subst h
    by_cases hl : i < env.length
    · simp [hl]
    · simp [hl]
  · simp [h]
/-- a name's list is changed in place, the last entry may be taken in -/
theorem SR.mod {d d2 i : Nat} {k : Kd} {t u : T} {w : V} (R : SR A kd F H env σ (tm ++ [⟨.own d2, u, w⟩])) (hv : getV env i = some t) (hki : kd[i]? = some k) (hk : k = .own d ∨ k = .io d) (na : ∀ e ∈ tm, e.k ≠ .al i) :
    ∃ v al bl, σ[i]? = some (some v) ∧ OwnR A.K F H d t v al ∧ OwnR A.K F H d2 u w bl ∧ (al ++ bl).Nodup ∧ (∀ a ∈ al ++ bl, (∃ xs, H a = some (.lst xs)) ∧ F a = none ∧ A.G a = none) ∧
      ∀ H' t' al', OwnR A.K F H' d t' v al' → al'.Nodup → (∀ a ∈ al', a ∈ al ++ bl) → (∀ a, a ∉ al ++ bl → H' a = H a) → SR A kd F H' (env.set i (some t')) σ tm := by
  obtain ⟨k', v, h1, h2, h3, _⟩ := R.slot hv
  rw [hki] at h1
  cases h1
  have hil : i < (slotsOf kd env σ).length := by rw [R.slen]; exact lt_of_get h2
  have h3' : (slotsOf kd env σ ++ tm)[i]? = some ⟨k, t, v⟩ := by
    rw [List.getElem?_append_left hil] at h3 ⊢
    exact h3
  obtain ⟨al, bl, a1, a2, a3, a4, a5⟩ := R.lay1.absorb h3' hk (R.pops.noAl na)
  refine ⟨v, al, bl, h2, a1, a2, a3, a4, fun H' t' al' b1 b2 b3 b4 => ?_⟩
  have L := a5 H' t' al' b1 b2 b3 b4
  have e1 : (slotsOf kd env σ ++ tm).set i ⟨k, t', v⟩ = slotsOf kd (env.set i (some t')) σ ++ tm := by
    rw [List.set_append_left _ _ hil, ← slotsOf_set k t' v, set_same hki, set_same h2]
  rw [e1] at L
  refine ⟨by rw [List.length_set]; exact R.le, R.lk, R.nal, fun j t2 hj => ?_, L, R.gr, fun e he j h => R.als e (List.mem_append_left _ he) j h, R.iov⟩
  rcases getS hj with ⟨rfl, _, _⟩ | ⟨_, hj⟩
  · exact ⟨v, h2⟩
  · exact R.bnd j t2 hj
theorem SR.pushU (R : SR A kd F H env σ tm) : SR A kd F H env σ (tm ++ [⟨.own 0, .non, .non⟩]) := R.pushes (fun _ h => .inl h) (R.lay.pushV .non)
end
theorem listOf_some {t : T} {l : List T} (h : listOf t = some l) : t = .lst l := by
  cases t <;> simp [listOf] at h
  subst h; rfl
theorem intOf_some {t : T} {i : Int} (h : intOf t = some i) : t = .int i := by
  cases t <;> simp [intOf] at h
  subst h; rfl
theorem nodup_sub3 {a : Addr} {r b : List Addr} (h : ((a :: r) ++ b).Nodup) : a ∉ r ∧ a ∉ b ∧ r.Nodup ∧ b.Nodup ∧ (∀ x ∈ r, x ∉ b) := by
  rw [List.cons_append, List.nodup_cons, List.nodup_append] at h
  obtain ⟨h1, h2, h3, h4⟩ := h
  exact ⟨fun z => h1 (List.mem_append_left _ z), fun z => h1 (List.mem_append_right _ z), h2, h3, fun x hx hb => h4 x hx x hb rfl⟩

section
variable {A : Act} {kd : List Kd} {X : Cx}
/-- the kind of a name whose list may be changed, its items new down to d -/
def mdK (kd : List Kd) (i d : Nat) : Bool := match kd[i]? with
  | some (.own e) => e == d + 1
  | some (.io e) => e == d + 1
  | _ => false
theorem mdK_of {i d : Nat} (h : mdK kd i d = true) : ∃ k, kd[i]? = some k ∧ (k = .own (d + 1) ∨ k = .io (d + 1)) := by
  unfold mdK at h
  split at h
  · rename_i e h1
    have : e = d + 1 := by simpa using h
    subst this
    exact ⟨_, h1, .inl rfl⟩
  · rename_i e h1
    have : e = d + 1 := by simpa using h
    subst this
    exact ⟨_, h1, .inr rfl⟩
  · cases h
theorem SR.lists {F H : Hp} {env : Env} {σ : L2.St} {tm : List Ent} {i d : Nat} {l : List T} (R : SR A kd F H env σ tm) (h : getV env i = some (.lst l)) (hm : mdK kd i d = true) : ∃ a xs, σ[i]? = some (some (.ref a)) ∧ H a = some (.lst xs) := by
  obtain ⟨k, e1, e2⟩ := mdK_of hm
  obtain ⟨k', v, h1, h2, h3, _⟩ := R.slot h
  rw [e1] at h1
  cases h1
  obtain ⟨al, r⟩ := R.lay.ent h3
  have r1 : OwnR A.K F H (d + 1) (.lst l) v al := by rcases e2 with rfl | rfl <;> exact r
  obtain ⟨a, xs, r, rfl, h4, _⟩ := r1.lstv
  exact ⟨a, xs, h2, h4⟩
theorem NoT.self {x : Ir} {tm : List Ent} {i : Nat} (n : NoT A x tm) (h : tchE A.io i x = true) : ∀ e ∈ tm, e.k ≠ .al i := fun e he z => by
  have := n e he i z
  rw [h] at this; cases this

/-! ### x.append(a) -/
theorem evE_app {C : Cal} {i : Nat} {a : Ir} {env env' : Env} {t : T} (h : evE C (.app i none a) env = some (t, env')) :
    ∃ l0 x env1 l, getV env i = some (.lst l0) ∧ evE C a env = some (x, env1) ∧ getV env1 i = some (.lst l) ∧ okLen (l.length + 1) = true ∧ t = .non ∧ env' = env1.set i (some (.lst (l ++ [x]))) := by
  unfold evE at h
  obtain ⟨t0, h1, h⟩ := bind_some h
  obtain ⟨l0, h2, h⟩ := bind_some h
  obtain ⟨⟨x, env1⟩, h3, h⟩ := bind_some h
  obtain ⟨t1, h4, h⟩ := bind_some h
  obtain ⟨l, h5, h⟩ := bind_some h
  have e1 := listOf_some h2
  have e2 := listOf_some h5
  subst e1 e2
  have h : (if okLen (l.length + 1) = true then some (T.non, env1.set i (some (.lst (l ++ [x])))) else none) = some (t, env') := h
  by_cases hl : okLen (l.length + 1) = true
  · rw [if_pos hl] at h
    cases h
    exact ⟨l0, x, env1, l, h1, h3, h4, hl, rfl, rfl⟩
  · rw [if_neg hl] at h; cases h
theorem s_app {d i : Nat} {a : Ir} {e : Expr} {x : Str} {p apos cpos : Pos} (hN : X.N[i]? = some x) (hv : Vis X.env.scope x) (hd : (x == ("__debug__" : Str)) = false) (hcd : (x == ("__classdict__" : Str)) = false) (hm : mdK kd i d = true) (hK : A.K = X.K) (ha : PE X e (tF A kd d a))
    (hs : starEach [e] X.env = (false, eval e X.env) :: starEach [] X.env) (hline : (apos.endLine == cpos.line) = true) :
    PE X (.Call (.Attribute (.Name x p) "append" apos) [e] [] cpos) (tF A kd 1 (.app i none a)) :=
  PE.imp (pe_bm PySem.F.plainAttrs_list PySem.F.slot_list_append PySem.F.type_list_append mt_append (pe_var (i := i) hN hv hd hcd) (pa_cons ha pa_nil hs) (hbase := by rfl) (hfew := by rw [hs]; rfl) (hline := hline) (hs := hs) (hplain := by rfl)) fun σ H Q ⟨F, env, tm, t, env', R, n, ev, q⟩ => by
    obtain ⟨l0, u, env1, l, h1, h2, h3, h4, rfl, rfl⟩ := evE_app ev
    obtain ⟨a0, xs0, s0, z0⟩ := R.lists h1 hm
    have n1 : NoT A a tm := fun e he j z => (Bool.or_eq_false_iff.mp (n e he j z)).2
    refine ⟨.ref a0, s0, .inl ⟨rfl, xs0, SqL.of z0⟩, F, env, tm, u, env1, R, n1, h2, fun v F1 H1 R1 s1 => ?_⟩
    obtain ⟨k, e1, e2⟩ := mdK_of hm
    have na : ∀ e ∈ tm, e.k ≠ .al i := n.self (by show (i == i || false || _) = true; simp)
    obtain ⟨v1, al, bl, g1, g2, g3, g4, g5, g6⟩ := R1.mod h3 e1 e2 na
    rw [s0] at g1
    cases g1
    obtain ⟨a1, xs, r, e3, h5, h6, h7, rfl⟩ := g2.lstv
    cases e3
    obtain ⟨m1, m2, m3, m4, m5⟩ := nodup_sub3 g4
    refine ⟨a0, xs, v, rfl, rfl, h5, ?_, ?_⟩
    · have := OwnL.length h7
      have := okLen_line h4
      omega
    · have up : ∀ b, b ≠ a0 → upd H1 a0 (.lst (xs ++ [v])) b = H1 b := fun b hb => upd_ne hb
      have R2 := g6 (upd H1 a0 (.lst (xs ++ [v]))) (.lst (l ++ [u])) (a0 :: (r ++ bl)) ⟨a0, xs ++ [v], r ++ bl, rfl, upd_same, h6, OwnL.snoc (g3.mono (Same.refl F1) d fun b hb => ⟨up b fun z => m2 (z ▸ hb), (g5 b (List.mem_append_right _ hb)).2.1⟩)
          (OwnL.mono h7 fun t v al hs q => q.mono (Same.refl F1) d fun b hb => ⟨up b fun z => m1 (z ▸ hs b hb), (g5 b (List.mem_append_left _ (List.mem_cons_of_mem _ (hs b hb)))).2.1⟩), rfl⟩
        (by
          rw [List.nodup_cons, List.nodup_append]
          exact ⟨fun z => (List.mem_append.mp z).elim m1 m2, m3, m4, fun x hx y hy e => m5 x hx (e ▸ hy)⟩)
        (fun b hb => by simpa using hb)
        (fun b hb => up b fun z => hb (by rw [z]; simp))
      obtain ⟨F3, R4, s3⟩ := R2.fin1 (z := .non) (v := .non) (outS .non)
      exact q _ F3 _ R4 (s1.trans s3)
end
end Pv
end

section
set_option Elab.async false
set_option linter.all false
set_option maxRecDepth 100000
/-! PvJ: pop, remove, stores by place, lists of lists. -/
namespace Pv
open PySem PySem.Spec PyProof.Rows L2

section
variable {A : Act} {kd : List Kd} {X : Cx}
theorem popL_some {l m : List T} {i : Int} {x : T} (h : popL l i = some (x, m)) : okLen l.length = true ∧ ∃ j, ixN l.length i = some j ∧ l[j]? = some x ∧ m = l.eraseIdx j := by
  unfold popL at h
  by_cases hl : okLen l.length = true
  · rw [if_pos hl] at h
    obtain ⟨j, h1, h⟩ := bind_some h
    obtain ⟨y, h2, h⟩ := bind_some h
    cases h
    exact ⟨hl, j, h1, h2, rfl⟩
  · rw [if_neg hl] at h; cases h
/-- the list of a name is replaced, by what is known of its items -/
theorem SR.mod0 {F H : Hp} {env : Env} {σ : L2.St} {tm : List Ent} {i : Nat} {l : List T} (R : SR A kd F H env σ tm) (hv : getV env i = some (.lst l)) (hm : mdK kd i 0 = true) (na : ∀ e ∈ tm, e.k ≠ .al i) :
    ∃ a xs, σ[i]? = some (some (.ref a)) ∧ H a = some (.lst xs) ∧ Reps A.K F l xs ∧ ∀ l' xs', Reps A.K F l' xs' → SR A kd F (upd H a (.lst xs')) (env.set i (some (.lst l'))) σ tm := by
  obtain ⟨k, e1, e2⟩ := mdK_of hm
  obtain ⟨v, al, bl, g1, g2, ⟨rfl, g3⟩, g4, g5, g6⟩ := R.pushU.mod hv e1 e2 na
  obtain ⟨a, xs, rfl, h1, h2, h3, rfl⟩ := g2.one
  refine ⟨a, xs, g1, h1, h3, fun l' xs' r' => ?_⟩
  exact g6 _ _ [a] (OwnR.of_one upd_same h2 r') (by simp) (fun b hb => by simpa using hb) fun b hb => upd_ne fun z => hb (by rw [z]; simp)

/-! ### x.pop(), x.pop(a) -/
theorem evE_pop {C : Cal} {i : Nat} {a : Option Ir} {env env' : Env} {t : T} (h : evE C (.pop i none a) env = some (t, env')) :
    ∃ l0 k env1 l m, getV env i = some (.lst l0) ∧ evO C a env = some (k, env1) ∧ getV env1 i = some (.lst l) ∧ popL l (k.getD (-1)) = some (t, m) ∧ env' = env1.set i (some (.lst m)) := by
  unfold evE at h
  obtain ⟨t0, h1, h⟩ := bind_some h
  obtain ⟨l0, h2, h⟩ := bind_some h
  obtain ⟨⟨x, env1⟩, h3, h⟩ := bind_some h
  obtain ⟨t1, h4, h⟩ := bind_some h
  obtain ⟨l, h5, h⟩ := bind_some h
  have e1 := listOf_some h2
  have e2 := listOf_some h5
  subst e1 e2
  have h : (do let (x, l) ← popL l (x.getD (-1)); some (x, env1.set i (some (.lst l)))) = some (t, env') := h
  obtain ⟨⟨y, m⟩, h6, h⟩ := bind_some h
  have h : some (y, env1.set i (some (.lst m))) = some (t, env') := h
  cases h
  exact ⟨l0, x, env1, l, m, h1, h3, h4, h6, rfl⟩
theorem ixN_last {n j : Nat} (h : ixN n (-1) = some j) : j = n - 1 ∧ 1 ≤ n := by
  unfold ixN at h
  rw [if_neg (by decide)] at h
  by_cases hn : -(n : Int) ≤ -1
  · rw [if_pos hn] at h
    cases h
    omega
  · rw [if_neg hn] at h; cases h
theorem erase_last {α : Type} (l : List α) : l.eraseIdx (l.length - 1) = l.dropLast := (PyProof.Rows.Copied.eraseIdx_last l)
theorem evO_none {C : Cal} {env env' : Env} {k : Option Int} (h : evO C none env = some (k, env')) : k = none ∧ env' = env := by
  unfold evO at h
  cases h
  exact ⟨rfl, rfl⟩
theorem evO_some {C : Cal} {a : Ir} {env env' : Env} {k : Option Int} (h : evO C (some a) env = some (k, env')) : ∃ i, evE C a env = some (.int i, env') ∧ k = some i := by
  unfold evO at h
  obtain ⟨⟨x, e1⟩, h1, h⟩ := bind_some h
  cases x with
  | int i =>
    cases h
    exact ⟨i, h1, rfl⟩
  | _ => cases h
theorem s_pop {i : Nat} {x : Str} {p apos cpos : Pos} (hN : X.N[i]? = some x) (hv : Vis X.env.scope x) (hd : (x == ("__debug__" : Str)) = false) (hcd : (x == ("__classdict__" : Str)) = false) (hm : mdK kd i 0 = true) (hline : (apos.endLine == cpos.line) = true) :
    PE X (.Call (.Attribute (.Name x p) "pop" apos) [] [] cpos) (tF A kd 0 (.pop i none none)) :=
  PE.imp (pe_bm0 PySem.F.plainAttrs_list PySem.F.slot_list_pop PySem.F.type_list_pop mt_pop (pe_var (i := i) hN hv hd hcd) (hbase := by rfl) (hline := hline)) fun σ H Q ⟨F, env, tm, t, env', R, n, ev, q⟩ => by
    obtain ⟨l0, k, env1, l, m, h1, h2, h3, h4, rfl⟩ := evE_pop ev
    obtain ⟨rfl, rfl⟩ := evO_none h2
    obtain ⟨hl, j, h5, h6, rfl⟩ := popL_some h4
    obtain ⟨rfl, hn⟩ := ixN_last h5
    obtain ⟨a, xs, s0, z0, r, g⟩ := R.mod0 h3 hm (n.self (by show (i == i || false || _) = true; simp))
    obtain ⟨y, hy, ry⟩ := r.get h6
    have hlen := r.length
    refine ⟨.ref a, s0, .inl ⟨rfl, xs, SqL.of z0⟩, a, xs, y, rfl, rfl, z0, by rw [← hlen]; exact hy, ?_⟩
    have e := r.eraseIdx (l.length - 1)
    rw [show xs.eraseIdx (l.length - 1) = xs.dropLast by rw [hlen]; exact erase_last xs] at e
    obtain ⟨F3, R4, s3⟩ := (g _ _ e).fin0 (.inr ⟨rfl, ry⟩)
    exact q _ F3 _ R4 s3
theorem s_popAt {i : Nat} {a : Ir} {e : Expr} {x : Str} {p apos cpos : Pos} (hN : X.N[i]? = some x) (hv : Vis X.env.scope x) (hd : (x == ("__debug__" : Str)) = false) (hcd : (x == ("__classdict__" : Str)) = false) (hm : mdK kd i 0 = true) (ha : PE X e (tR A kd a))
    (hs : starEach [e] X.env = (false, eval e X.env) :: starEach [] X.env) (hline : (apos.endLine == cpos.line) = true) :
    PE X (.Call (.Attribute (.Name x p) "pop" apos) [e] [] cpos) (tF A kd 0 (.pop i none (some a))) :=
  PE.imp (pe_bm PySem.F.plainAttrs_list PySem.F.slot_list_pop PySem.F.type_list_pop mt_popAt (pe_var (i := i) hN hv hd hcd) (pa_cons ha pa_nil hs) (hbase := by rfl) (hfew := by rw [hs]; rfl) (hline := hline) (hs := hs) (hplain := by rfl)) fun σ H Q ⟨F, env, tm, t, env', R, n, ev, q⟩ => by
    obtain ⟨l0, k, env1, l, m, h1, h2, h3, h4, rfl⟩ := evE_pop ev
    obtain ⟨k, h2', rfl⟩ := evO_some h2
    have h4 : popL l k = some (t, m) := h4
    obtain ⟨hl, j, h5, h6, rfl⟩ := popL_some h4
    obtain ⟨a0, xs0, s0, z0⟩ := R.lists h1 hm
    have n1 : NoT A a tm := fun e he j z => (Bool.or_eq_false_iff.mp (n e he j z)).2
    refine ⟨.ref a0, s0, .inl ⟨rfl, xs0, SqL.of z0⟩, F, env, tm, .int k, env1, R, n1, h2', fun kk v F1 H1 kr R1 s1 => ?_⟩
    have ev' : v = .int k := by
      obtain ⟨al, z⟩ := R1.lay1.ent (j := (slotsOf kd env1 σ ++ tm).length) (e := ⟨kk, .int k, v⟩) (by simp)
      rcases kr with rfl | ⟨i', _, rfl, _⟩
      · have z : OwnR A.K F1 H1 0 (.int k) v al := z
        cases z.2; rfl
      · obtain ⟨_, k', z1, z2⟩ := R1.lay1.ali _ i' (.int k) v (by simp : ((slotsOf kd env1 σ ++ tm) ++ [⟨.al i', .int k, v⟩])[(slotsOf kd env1 σ ++ tm).length]? = _)
        obtain ⟨al2, z3⟩ := R1.lay1.ent z1
        cases k' with
        | own d => 
          have z3 : OwnR A.K F1 H1 d (.int k) v al2 := z3
          cases (z3.same_inv rfl).2; rfl
        | io d => 
          have z3 : OwnR A.K F1 H1 d (.int k) v al2 := z3
          cases (z3.same_inv rfl).2; rfl
        | bor => 
          have z3 : al2 = [] ∧ Rep A.K F1 (.int k) v := z3
          cases z3.2; rfl
        | scr => 
          obtain ⟨_, _, ns, z4, _⟩ := z3
          cases z4
        | al _ => cases z2
        | un => cases z2
    subst ev'
    obtain ⟨a1, xs, s1', z1, r, g⟩ := R1.pops.mod0 h3 hm (n.self (by show (i == i || false || _) = true; simp))
    rw [s0] at s1'
    cases s1'
    obtain ⟨y, hy, ry⟩ := r.get h6
    have hlen := r.length
    obtain ⟨q1, q2, q3, q4⟩ := ixN_seq h5
    have hz := of_decide_eq_true hl
    refine ⟨a0, xs, k, j, y, rfl, rfl, z1, by omega, by omega, by rw [← hlen]; exact q1, hy, ?_⟩
    obtain ⟨F3, R4, s3⟩ := (g _ _ (r.eraseIdx j)).fin0 (.inr ⟨rfl, ry⟩)
    exact q _ F3 _ R4 (s1.trans s3)

end
end Pv
end

section
set_option Elab.async false
set_option linter.all false
set_option maxRecDepth 100000
/-! PvJ2: lists of lists of one's own; simple arguments; remove. -/
namespace Pv
open PySem PySem.Spec PyProof.Rows L2

section
variable {A : Act} {kd : List Kd} {X : Cx}
theorem SR.intv {F H : Hp} {env : Env} {σ : L2.St} {tm : List Ent} {kk : Kd} {k : Int} {v : V} {a : Ir} (R : SR A kd F H env σ (tm ++ [⟨kk, .int k, v⟩])) (kr : KR kd a kk) : v = .int k := by
  obtain ⟨al, z⟩ := R.lay1.ent (j := (slotsOf kd env σ ++ tm).length) (e := ⟨kk, .int k, v⟩) (by simp)
  rcases kr with rfl | ⟨i', _, rfl, _⟩
  · have z : OwnR A.K F H 0 (.int k) v al := z
    cases z.2; rfl
  · obtain ⟨_, k', z1, z2⟩ := R.lay1.ali _ i' (.int k) v (by simp : ((slotsOf kd env σ ++ tm) ++ [⟨.al i', .int k, v⟩])[(slotsOf kd env σ ++ tm).length]? = _)
    obtain ⟨al2, z3⟩ := R.lay1.ent z1
    cases k' with
    | own d =>
      have z3 : OwnR A.K F H d (.int k) v al2 := z3
      cases (z3.same_inv rfl).2; rfl
    | io d =>
      have z3 : OwnR A.K F H d (.int k) v al2 := z3
      cases (z3.same_inv rfl).2; rfl
    | bor =>
      have z3 : al2 = [] ∧ Rep A.K F (.int k) v := z3
      cases z3.2; rfl
    | scr =>
      obtain ⟨_, _, ns, z4, _⟩ := z3
      cases z4
    | al _ => cases z2
    | un => cases z2
theorem SR.rd2 {F H : Hp} {env : Env} {σ : L2.St} {tm : List Ent} {i j d : Nat} {l : List T} {u : T} (R : SR A kd F H env σ tm) (hv : getV env i = some (.lst l)) (hm : mdK kd i d = true) (hj : l[j]? = some u) :
    ∃ a xs w al, σ[i]? = some (some (.ref a)) ∧ H a = some (.lst xs) ∧ xs.length = l.length ∧ xs[j]? = some w ∧ OwnR A.K F H d u w al := by
  obtain ⟨k, e1, e2⟩ := mdK_of hm
  obtain ⟨k', v, h1, h2, h3, _⟩ := R.slot hv
  rw [e1] at h1
  cases h1
  obtain ⟨al, r⟩ := R.lay.ent h3
  have r1 : OwnR A.K F H (d + 1) (.lst l) v al := by rcases e2 with rfl | rfl <;> exact r
  obtain ⟨a, xs, r, rfl, h4, h5, h6, _⟩ := r1.lstv
  obtain ⟨w, _, _, rj, q1, _, q3, _⟩ := OwnL.upd h6 hj
  exact ⟨a, xs, w, rj, h2, h4, (OwnL.length h6).symm, q1, q3⟩
/-- a list within the list of a name is replaced -/
theorem SR.modIn {F H : Hp} {env : Env} {σ : L2.St} {tm : List Ent} {i j : Nat} {l m : List T} (R : SR A kd F H env σ tm) (hv : getV env i = some (.lst l)) (hm : mdK kd i 1 = true) (hj : l[j]? = some (.lst m)) (na : ∀ e ∈ tm, e.k ≠ .al i) :
    ∃ a xs b ms, σ[i]? = some (some (.ref a)) ∧ H a = some (.lst xs) ∧ xs.length = l.length ∧ xs[j]? = some (.ref b) ∧ H b = some (.lst ms) ∧ Reps A.K F m ms ∧
      ∀ m' ms', Reps A.K F m' ms' → SR A kd F (upd H b (.lst ms')) (env.set i (some (.lst (l.set j (.lst m'))))) σ tm := by
  obtain ⟨k, e1, e2⟩ := mdK_of hm
  obtain ⟨v, al, bl, g1, g2, ⟨rfl, g3⟩, g4, g5, g6⟩ := R.pushU.mod hv e1 e2 na
  obtain ⟨a, xs, r, rfl, h1, h2, h3, rfl⟩ := g2.lstv
  obtain ⟨w, r1, r2, rj, q1, q2, q3, q4⟩ := OwnL.upd h3 hj
  obtain ⟨b, ms, rfl, p1, p2, p3, rfl⟩ := q3.one
  subst q2
  rw [List.append_nil, List.nodup_cons] at g4
  obtain ⟨nd1, nd2⟩ := g4
  have hab : a ≠ b := fun z => nd1 (by rw [z]; simp)
  rw [List.append_assoc, List.nodup_append] at nd2
  obtain ⟨nd3, nd4, nd5⟩ := nd2
  rw [List.singleton_append, List.nodup_cons] at nd4
  have n1 : ∀ c ∈ r1 ++ r2, c ≠ b := fun c hc z => by
    rcases List.mem_append.mp hc with hc | hc
    · exact nd5 c hc b (by simp) z
    · exact nd4.1 (z ▸ hc)
  refine ⟨a, xs, b, ms, g1, h1, (OwnL.length h3).symm, q1, p1, p3, fun m' ms' r' => ?_⟩
  have fr : ∀ c ∈ r1 ++ r2, F c = none := fun c hc => (g5 c (by
    rcases List.mem_append.mp hc with hc | hc <;> simp [hc])).2.1
  have z := q4 (OwnR A.K F (upd H b (.lst ms')) 1) (.lst m') (.ref b) [b] (OwnR.of_one upd_same p2 r') fun t v al hs q => q.mono (Same.refl F) 1 fun c hc => ⟨upd_ne (n1 c (hs c hc)), fr c (hs c hc)⟩
  rw [set_same q1] at z
  refine g6 _ _ (a :: (r1 ++ [b] ++ r2)) ⟨a, xs, _, rfl, by rw [upd_ne hab]; exact h1, h2, z, rfl⟩ ?_ (fun c hc => by simpa using hc) fun c hc => upd_ne fun z => hc (by rw [z]; simp)
  rw [List.nodup_cons]
  refine ⟨nd1, ?_⟩
  rw [List.append_assoc, List.nodup_append]
  refine ⟨nd3, ?_, nd5⟩
  rw [List.singleton_append, List.nodup_cons]
  exact nd4
/-- an item of the list of a name is replaced by the last entry -/
theorem SR.modAt {F H : Hp} {env : Env} {σ : L2.St} {tm : List Ent} {i j d : Nat} {l : List T} {u : T} {w : V} (R : SR A kd F H env σ (tm ++ [⟨.own d, u, w⟩])) (hv : getV env i = some (.lst l)) (hm : mdK kd i d = true) (hj : j < l.length) (na : ∀ e ∈ tm, e.k ≠ .al i) :
    ∃ a xs, σ[i]? = some (some (.ref a)) ∧ H a = some (.lst xs) ∧ xs.length = l.length ∧ SR A kd F (upd H a (.lst (xs.set j w))) (env.set i (some (.lst (l.set j u)))) σ tm := by
  obtain ⟨k, e1, e2⟩ := mdK_of hm
  obtain ⟨v, al, bl, g1, g2, g3, g4, g5, g6⟩ := R.mod hv e1 e2 na
  obtain ⟨a, xs, r, rfl, h1, h2, h3, rfl⟩ := g2.lstv
  obtain ⟨w0, r1, r2, rj, q1, q2, q3, q4⟩ := OwnL.upd h3 (List.getElem?_eq_getElem hj)
  subst q2
  refine ⟨a, xs, g1, h1, (OwnL.length h3).symm, ?_⟩
  have nda : a ∉ r1 ++ rj ++ r2 ++ bl := by
    rw [List.cons_append, List.nodup_cons] at g4
    exact g4.1
  have nd : (r1 ++ rj ++ r2 ++ bl).Nodup := by
    rw [List.cons_append, List.nodup_cons] at g4
    exact g4.2
  have ne : ∀ c ∈ r1 ++ rj ++ r2 ++ bl, c ≠ a := fun c hc z => nda (z ▸ hc)
  have fr : ∀ c ∈ r1 ++ rj ++ r2 ++ bl, F c = none := fun c hc => (g5 c (by
    simp at hc ⊢
    rcases hc with hc | hc | hc | hc <;> simp [hc])).2.1
  have z := q4 (OwnR A.K F (upd H a (.lst (xs.set j w))) d) u w bl (g3.mono (Same.refl F) d fun c hc => ⟨upd_ne (ne c (by simp [hc])), fr c (by simp [hc])⟩)
    fun t v al hs q => q.mono (Same.refl F) d fun c hc => by
      have hc := hs c hc
      have hc2 : c ∈ r1 ++ rj ++ r2 ++ bl := by
        simp at hc ⊢
        rcases hc with hc | hc <;> simp [hc]
      exact ⟨upd_ne (ne c hc2), fr c hc2⟩
  refine g6 _ _ (a :: (r1 ++ bl ++ r2)) ⟨a, _, _, rfl, upd_same, h2, z, rfl⟩ ?_ (fun c hc => ?_) fun c hc => upd_ne fun z => hc (by rw [z]; simp)
  · rw [List.nodup_cons]
    refine ⟨fun hc => nda (by
      simp at hc ⊢
      rcases hc with hc | hc | hc <;> simp [hc]), ?_⟩
    have p : (r1 ++ rj ++ r2 ++ bl).Perm (rj ++ (r1 ++ bl ++ r2)) := by
      have p1 : (r1 ++ rj ++ r2 ++ bl).Perm (rj ++ r1 ++ r2 ++ bl) := by
        rw [List.append_assoc (r1 ++ rj), List.append_assoc (rj ++ r1)]
        exact List.Perm.append_right _ List.perm_append_comm
      refine p1.trans ?_
      rw [List.append_assoc, List.append_assoc, List.append_assoc]
      exact List.Perm.append_left _ (List.Perm.append_left _ List.perm_append_comm)
    exact (List.nodup_append.mp (p.nodup_iff.mp nd)).2.1
  · simp at hc ⊢
    rcases hc with hc | hc | hc | hc <;> simp [hc]

/-! ### simple arguments: what reckons nothing new -/
def simE (kd : List Kd) : Ir → Bool
  | .nm i => match kd[i]? with | some (.own 0) => true | _ => false
  | .con t => !t.mutable
  | .bin .fdiv a b => simE kd a && simE kd b
  | .bin .sub a b => simE kd a && simE kd b
  | .bin .mod a b => simE kd a && simE kd b
  | _ => false
variable (A) (kd) in
def tZ (x : Ir) : TE := fun σ H Q => ∃ F env tm t env', SR A kd F H env σ tm ∧ evE A.C x env = some (t, env') ∧ ∀ v, env' = env → Rep A.K F t v → Q v H
theorem z_nm {i : Nat} {x : Str} {pos : Pos} (hN : X.N[i]? = some x) (hv : Vis X.env.scope x) (hd : (x == ("__debug__" : Str)) = false) (hcd : (x == ("__classdict__" : Str)) = false) (h0 : kd[i]? = some (.own 0)) : PE X (.Name x pos) (tZ A kd (.nm i)) :=
  PE.imp (pe_var (i := i) hN hv hd hcd) fun σ H Q ⟨F, env, tm, t, env', R, ev, q⟩ => by
    obtain ⟨h1, rfl⟩ := evE_nm ev
    obtain ⟨k, v, hk, hs, he, hn⟩ := R.slot h1
    rw [h0] at hk
    cases hk
    exact ⟨v, hs, q v rfl (R.lay.rep he)⟩
theorem z_con {u : T} {v : V} {e : Expr} (he : PE X e (tC v)) (r : ∀ F, Rep A.K F u v) : PE X e (tZ A kd (.con u)) :=
  PE.imp he fun σ H Q ⟨F, env, tm, t, env', R, ev, q⟩ => by
    obtain ⟨rfl, rfl⟩ := evE_con ev
    exact q v rfl (r F)
theorem evE_bin {C : Cal} {o : Op} {a b : Ir} {env env' : Env} {t : T} (h : evE C (.bin o a b) env = some (t, env')) : ∃ x env1 y, evE C a env = some (x, env1) ∧ evE C b env1 = some (y, env') ∧ opT o x y = some t := by
  unfold evE at h
  obtain ⟨⟨x, e1⟩, h1, h⟩ := bind_some h
  obtain ⟨⟨y, e2⟩, h2, h⟩ := bind_some h
  obtain ⟨z, h3, h⟩ := bind_some h
  cases h
  exact ⟨x, e1, y, h1, h2, h3⟩
theorem Rep.toShal {K : PySem.W.Frag} {F H : Hp} {t : T} {v : V} (h : Rep K F t v) (s : Same F H) : Shal K F H t v := Shal.of h s
theorem z_bin {o : Op} {po : Operator} {a b : Ir} {ea eb : Expr} {pos : Pos} (ho : OpR X (binaryOp po) (rT2 X.K (opT o))) (hK : A.K = X.K) (hi : ∀ x y z, opT o x y = some z → ∃ i, z = .int i) (ha : PE X ea (tZ A kd a)) (hb : PE X eb (tZ A kd b)) : PE X (.BinOp ea po eb pos) (tZ A kd (.bin o a b)) :=
  PE.imp (pe_op ho ha hb) fun σ H Q ⟨F, env, tm, t, env', R, ev, q⟩ => by
    obtain ⟨x, env1, y, h1, h2, h3⟩ := evE_bin ev
    refine ⟨F, env, tm, x, env1, R, h1, fun v e1 r1 => ?_⟩
    subst e1
    refine ⟨F, env1, tm, y, env', R, h2, fun w e2 r2 => ?_⟩
    subst e2
    refine ⟨F, x, y, t, R.lay.fh, by rw [← hK]; exact r1.toShal R.lay.fh, by rw [← hK]; exact r2.toShal R.lay.fh, h3, fun u H' o => ?_⟩
    obtain ⟨i, rfl⟩ := hi x y t h3
    rcases o with ⟨rfl, r3, _⟩ | ⟨p, xs, ts, z, _⟩ | ⟨p, xs, ts, z, _⟩
    · exact q u rfl (by rw [hK]; exact r3)
    · cases z
    · cases z
theorem fdiv_int {x y z : T} (h : opT .fdiv x y = some z) : ∃ i, z = .int i := by
  change fdivT x y = some z at h
  unfold fdivT at h
  split at h
  · split at h
    · cases h; exact ⟨_, rfl⟩
    · cases h
  · cases h
theorem sub_int' {x y z : T} (h : opT .sub x y = some z) : ∃ i, z = .int i := by
  change subT x y = some z at h
  unfold subT at h
  split at h
  · cases h; exact ⟨_, rfl⟩
  · cases h
theorem mod_int'' {x y z : T} (h : opT .mod x y = some z) : ∃ i, z = .int i := by
  change modT x y = some z at h
  unfold modT at h
  split at h
  · split at h
    · cases h; exact ⟨_, rfl⟩
    · cases h
  · cases h

/-! ### x[k], x[k] != [] of lists of lists -/
theorem atI_of {α : Type} {xs : List α} {n : Nat} {k : Int} {j : Nat} {w : α} (h : ixN n k = some j) (e : xs.length = n) (hj : xs[j]? = some w) : atI xs k = some w := by
  unfold atI
  rw [e, h]
  exact hj
theorem evE_ixs {C : Cal} {i : Nat} {k : Int} {env env' : Env} {t : T} (h : evE C (.ixs i k) env = some (t, env')) : ∃ l j, getV env i = some (.lst l) ∧ ixN l.length k = some j ∧ l[j]? = some t ∧ t.mutable = false ∧ env' = env := by
  unfold evE at h
  obtain ⟨t0, h1, h⟩ := bind_some h
  obtain ⟨l, h2, h⟩ := bind_some h
  obtain ⟨j, h3, h⟩ := bind_some h
  obtain ⟨u, h4, h⟩ := bind_some h
  have e1 := listOf_some h2
  have h9 : (if u.mutable = true then none else some (u, env)) = some (t, env') := h
  subst e1
  replace h := h9
  by_cases hu : u.mutable = true
  · rw [if_pos hu] at h; cases h
  · rw [if_neg hu] at h
    cases h
    exact ⟨l, j, h1, h3, h4, by simpa using hu, rfl⟩
theorem s_ixs {d i : Nat} {k : Int} {x : Str} {p pos : Pos} {ek : Expr} (hN : X.N[i]? = some x) (hv : Vis X.env.scope x) (hd : (x == ("__debug__" : Str)) = false) (hcd : (x == ("__classdict__" : Str)) = false) (hm : mdK kd i d = true) (hK : A.K = X.K) (hk : PE X ek (tC (.int k))) (hs : PlainIx ek) :
    PE X (.Subscript (.Name x p) ek pos) (tF A kd 1 (.ixs i k)) :=
  PE.imp (pe_ix ix_list (pe_var (i := i) hN hv hd hcd) hk hs) fun σ H Q ⟨F, env, tm, t, env', R, n, ev, q⟩ => by
    obtain ⟨l, j, h1, h2, h3, h4, rfl⟩ := evE_ixs ev
    obtain ⟨a, xs, w, al, g1, g2, g3, g4, g5⟩ := R.rd2 h1 hm h3
    refine ⟨.ref a, g1, a, xs, k, w, rfl, rfl, SqL.of g2, atI_of h2 g3 g4, ?_⟩
    obtain ⟨F3, R4, s3⟩ := R.fin1 (.inl ⟨rfl, (g5.same_inv h4).2, h4⟩)
    exact q w F3 _ R4 s3
theorem evE_dne {C : Cal} {i : Nat} {k : Int} {env env' : Env} {t : T} (h : evE C (.dne i k) env = some (t, env')) : ∃ l j m, getV env i = some (.lst l) ∧ ixN l.length k = some j ∧ l[j]? = some (.lst m) ∧ Ts.pl m = true ∧ t = .bl (!m.isEmpty) ∧ env' = env := by
  unfold evE at h
  obtain ⟨t0, h1, h⟩ := bind_some h
  obtain ⟨l, h2, h⟩ := bind_some h
  obtain ⟨j, h3, h⟩ := bind_some h
  obtain ⟨u, h4, h⟩ := bind_some h
  obtain ⟨m, h5, h⟩ := bind_some h
  have e1 := listOf_some h2
  have e2 := listOf_some h5
  have h9 : (if Ts.pl m = true then some (T.bl (!m.isEmpty), env) else none) = some (t, env') := h
  subst e1 e2
  replace h := h9
  by_cases hu : Ts.pl m = true
  · rw [if_pos hu] at h
    cases h
    exact ⟨l, j, m, h1, h3, h4, hu, rfl, rfl⟩
  · rw [if_neg hu] at h; cases h
end
end Pv
end

section
set_option Elab.async false
set_option linter.all false
set_option maxRecDepth 100000
/-! PvK: the rules by the kinds of the nodes. -/
namespace Pv
open PySem PySem.Spec PyProof.Rows L2

section
variable {A : Act} {kd : List Kd} {X : Cx}
theorem s_bin {o : Op} {po : Operator} {a b : Ir} {ea eb : Expr} {pos : Pos} (ho : OpR X (binaryOp po) (rT2 X.K (opT o))) (hK : A.K = X.K) (ha : PE X ea (tR A kd a)) (hb : PE X eb (tR A kd b)) (ra : rdK kd a = true) (rb : rdK kd b = true) (st : stK A.io kd a [b] = true) :
    PE X (.BinOp ea po eb pos) (tF A kd 1 (.bin o a b)) := by
  rw [← hK] at ho
  exact PE.imp (pe_op ho ha hb) (op2_imp (fun env t env' h => evE_bin h) (fun i h => Bool.or_eq_false_iff.mp h) ra rb st)
theorem evE_neg {C : Cal} {a : Ir} {env env' : Env} {t : T} (h : evE C (.neg a) env = some (t, env')) : ∃ x, evE C a env = some (x, env') ∧ negT x = some t := by
  unfold evE at h
  obtain ⟨⟨x, e1⟩, h1, h⟩ := bind_some h
  obtain ⟨z, h2, h⟩ := bind_some h
  cases h
  exact ⟨x, h1, h2⟩
theorem s_neg {a : Ir} {ea : Expr} {pos : Pos} (hK : A.K = X.K) (ha : PE X ea (tR A kd a)) (ra : rdK kd a = true) : PE X (.UnaryOp .USub ea pos) (tF A kd 1 (.neg a)) := by
  have ho : UnR X (unaryOp .USub) (rT1 A.K negT) := by rw [hK]; exact r_neg
  exact PE.imp (pe_un ho ha) (op1_imp (fun env t env' h => evE_neg h) (fun i h => h) ra)
theorem evE_cmp {C : Cal} {c : Cm} {a b : Ir} {env env' : Env} {t : T} (h : evE C (.cmp c a b) env = some (t, env')) : ∃ x env1 y, evE C a env = some (x, env1) ∧ evE C b env1 = some (y, env') ∧ (cmpT c x y).map T.bl = some t := by
  unfold evE at h
  obtain ⟨⟨x, e1⟩, h1, h⟩ := bind_some h
  obtain ⟨⟨y, e2⟩, h2, h⟩ := bind_some h
  obtain ⟨z, h3, h⟩ := bind_some h
  cases h
  exact ⟨x, e1, y, h1, h2, by rw [h3]; rfl⟩
theorem cmp_imp {c : Cm} {a b : Ir} (ra : rdK kd a = true) (rb : rdK kd b = true) (st : stK A.io kd a [b] = true) :
    ∀ σ H Q, tF A kd 1 (.cmp c a b) σ H Q → tOp (rTc A.K (cmpT c)) (tR A kd a) (tR A kd b) σ H Q :=
  op2_imp (fun env t env' h => evE_cmp h) (fun i h => Bool.or_eq_false_iff.mp h) ra rb st
theorem s_cmp {c : Cm} {op : CmpOp} {a b : Ir} {ea eb : Expr} {pos : Pos} (ho : OpR X (compareOp op) (rTc X.K (cmpT c))) (hK : A.K = X.K) (ha : PE X ea (tR A kd a)) (hb : PE X eb (tR A kd b)) (ra : rdK kd a = true) (rb : rdK kd b = true) (st : stK A.io kd a [b] = true) (hm : behindInMarks op eb = false) :
    PE X (.Compare ea [op] [eb] pos) (tF A kd 1 (.cmp c a b)) := by
  rw [← hK] at ho
  exact PE.imp (pe_cmpR ho ha hb hm) (cmp_imp ra rb st)
theorem Rep.blv {K : PySem.W.Frag} {F : Hp} {z : Bool} {v : V} (h : Rep K F (.bl z) v) : v = .bl z := by cases h; rfl
theorem t_cmp {c : Cm} {op : CmpOp} {a b : Ir} {ea eb : Expr} {pos : Pos} (ho : OpR X (compareOp op) (rTc X.K (cmpT c))) (hK : A.K = X.K) (ha : PE X ea (tR A kd a)) (hb : PE X eb (tR A kd b)) (ra : rdK kd a = true) (rb : rdK kd b = true) (st : stK A.io kd a [b] = true) (hm : behindInMarks op eb = false) :
    PT X (.Compare ea [op] [eb] pos) (tT A kd (.cmp c a b)) := by
  rw [← hK] at ho
  refine PT.imp (pt_cmpR ho ha hb hm) fun σ H Q ⟨F, env, tm, t, env', R, n, ev, q⟩ => ?_
  refine cmp_imp ra rb st σ H (fun x H' => ∃ k, x = .bl k ∧ Q k H') ⟨F, env, tm, t, env', R, n, ev, fun v F1 H1 R1 s1 => ?_⟩
  obtain ⟨x, env1, y, _, _, h3⟩ := evE_cmp ev
  obtain ⟨z, _, rfl⟩ := Option.map_eq_some_iff.mp h3
  obtain ⟨F2, R2, s2⟩ := R1.frz
  have e := (R2.rep (t := .bl z) (v := v) (j := tm.length) (by simp)).blv
  exact ⟨z, e, q F1 H1 R1.pops s1⟩

/-! ### a op b op c -/
theorem evE_cmp2 {C : Cal} {c c2 : Cm} {a b d : Ir} {env env' : Env} {t : T} (h : evE C (.cmp2 c c2 a b d) env = some (t, env')) :
    ∃ x env1 y env2 z, evE C a env = some (x, env1) ∧ evE C b env1 = some (y, env2) ∧ cmpT c x y = some z ∧ ((z = false ∧ t = .bl false ∧ env' = env2) ∨ (z = true ∧ ∃ u z2, evE C d env2 = some (u, env') ∧ cmpT c2 y u = some z2 ∧ t = .bl z2)) := by
  unfold evE at h
  obtain ⟨⟨x, e1⟩, h1, h⟩ := bind_some h
  obtain ⟨⟨y, e2⟩, h2, h⟩ := bind_some h
  obtain ⟨z, h3, h⟩ := bind_some h
  refine ⟨x, e1, y, e2, z, h1, h2, h3, ?_⟩
  have h : (if z = true then (do let (u, env) ← evE C d e2; let z ← cmpT c2 y u; some (T.bl z, env)) else some (T.bl false, e2)) = some (t, env') := h
  by_cases hz : z = true
  · rw [if_pos hz] at h
    obtain ⟨⟨u, e3⟩, h4, h⟩ := bind_some h
    obtain ⟨z2, h5, h⟩ := bind_some h
    cases h
    exact .inr ⟨hz, u, z2, h4, h5, rfl⟩
  · rw [if_neg hz] at h
    have hz' : z = false := by simpa using hz
    cases h
    exact .inl ⟨hz', rfl, rfl⟩
theorem NoT.of3 {a b c x : Ir} {tm : List Ent} (n : NoT A x tm) (h : ∀ i, tchE A.io i x = (tchE A.io i a || tchE A.io i b || tchE A.io i c)) : NoT A a tm ∧ NoT A b tm ∧ NoT A c tm := by
  refine ⟨fun e he i z => ?_, fun e he i z => ?_, fun e he i z => ?_⟩ <;>
    (have q1 := Bool.or_eq_false_iff.mp ((h i).symm.trans (n e he i z))
     have q2 := Bool.or_eq_false_iff.mp q1.1)
  · exact q2.1
  · exact q2.2
  · exact q1.2
theorem cmp2_imp {c c2 : Cm} {a b d : Ir} (ra : rdK kd a = true) (rb : rdK kd b = true) (rd : rdK kd d = true) (st : stK A.io kd a [b, d] = true) (st2 : stK A.io kd b [d] = true) :
    ∀ σ H Q, tF A kd 1 (.cmp2 c c2 a b d) σ H Q → tChain (rTc A.K (cmpT c)) (rTc A.K (cmpT c2)) (tR A kd a) (tR A kd b) (tR A kd d) σ H Q := fun σ H Q ⟨F, env, tm, t, env', R, n, ev, q⟩ => by
  obtain ⟨x, env1, y, env2, z, h1, h2, h3, h4⟩ := evE_cmp2 ev
  obtain ⟨na, nb, nd⟩ := n.of3 (a := a) (b := b) (c := d) fun _ => rfl
  have nn : NoTs A [b, d] tm := fun e he i z => by
    show (tchE A.io i b || (tchE A.io i d || false)) = false
    rw [nb e he i z, nd e he i z]; rfl
  refine ⟨F, env, tm, x, env1, R, na, h1, fun k v F1 H1 kr R1 s1 => ?_⟩
  have nn1 := NoTs.on (t := x) (v := v) nn kr st
  refine ⟨F1, env1, tm ++ [⟨k, x, v⟩], y, env2, R1, NoT.of nn1, h2, fun k2 v2 F2 H2 kr2 R2 s2 => ?_⟩
  have nn2 := NoTs.on (t := y) (v := v2) (NoTs.tail nn1) kr2 st2
  have g1 : Shal A.K F2 H2 x v := R2.shalR (j := tm.length) (by simp) kr ra
  have g2 : Shal A.K F2 H2 y v2 := R2.shalR (j := tm.length + 1) (by simp) kr2 rb
  refine ⟨F2, x, y, .bl z, R2.lay.fh, g1, g2, by show (cmpT c x y).map T.bl = _; rw [h3]; rfl, fun w H3 o => ⟨z, ?_, ?_⟩⟩
  · rcases o with ⟨_, r, _⟩ | ⟨_, _, _, e, _⟩ | ⟨_, _, _, e, _⟩
    · exact r.blv
    · cases e
    · cases e
  · have eH : H3 = H2 := by
      rcases o with ⟨e, _, _⟩ | ⟨_, _, _, e, _⟩ | ⟨_, _, _, e, _⟩
      · exact e
      · cases e
      · cases e
    subst eH
    have R3 : SR A kd F2 H3 env2 σ tm := by
      have := R2; rw [List.append_assoc] at this; exact this.pops
    rcases h4 with ⟨rfl, rfl, rfl⟩ | ⟨rfl, u, z2, h5, h6, rfl⟩
    · rw [if_neg Bool.false_ne_true]
      obtain ⟨F3, R4, s3⟩ := R3.fin1 (z := .bl false) (v := .bl false) (outS (.bl _))
      exact q _ F3 _ R4 ((s1.trans s2).trans s3)
    · rw [if_pos rfl]
      refine ⟨F2, env2, tm ++ [⟨k, x, v⟩] ++ [⟨k2, y, v2⟩], u, env', R2, NoT.of nn2, h5, fun k3 v3 F4 H4 kr3 R4 s4 => ?_⟩
      have g3 : Shal A.K F4 H4 y v2 := R4.shalR (j := tm.length + 1) (by simp) kr2 rb
      have g4 : Shal A.K F4 H4 u v3 := R4.shalR (j := tm.length + 2) (by simp) kr3 rd
      refine ⟨F4, y, u, .bl z2, R4.lay.fh, g3, g4, by show (cmpT c2 y u).map T.bl = _; rw [h6]; rfl, fun w H5 o => ?_⟩
      have R5 : SR A kd F4 H4 env' σ tm := by
        have := R4; rw [List.append_assoc, List.append_assoc] at this; exact this.pops
      obtain ⟨F6, R6, s6⟩ := R5.fin1 o
      exact q _ F6 _ R6 (((s1.trans s2).trans s4).trans s6)
theorem s_cmp2 {c c2 : Cm} {op op2 : CmpOp} {a b d : Ir} {ea eb ed : Expr} {pos : Pos} (ho : OpR X (compareOp op) (rTc X.K (cmpT c))) (ho2 : OpR X (compareOp op2) (rTc X.K (cmpT c2))) (hK : A.K = X.K) (ha : PE X ea (tR A kd a)) (hb : PE X eb (tR A kd b)) (hd : PE X ed (tR A kd d))
    (ra : rdK kd a = true) (rb : rdK kd b = true) (rd : rdK kd d = true) (st : stK A.io kd a [b, d] = true) (st2 : stK A.io kd b [d] = true) (hm : lastMarks [op, op2] [eb, ed] = false) :
    PE X (.Compare ea [op, op2] [eb, ed] pos) (tF A kd 1 (.cmp2 c c2 a b d)) := by
  rw [← hK] at ho ho2
  exact PE.imp (pe_chain ho ho2 ha hb hd hm) (cmp2_imp ra rb rd st st2)
theorem t_cmp2 {c c2 : Cm} {op op2 : CmpOp} {a b d : Ir} {ea eb ed : Expr} {pos : Pos} (ho : OpR X (compareOp op) (rTc X.K (cmpT c))) (ho2 : OpR X (compareOp op2) (rTc X.K (cmpT c2))) (hK : A.K = X.K) (ha : PE X ea (tR A kd a)) (hb : PE X eb (tR A kd b)) (hd : PE X ed (tR A kd d))
    (ra : rdK kd a = true) (rb : rdK kd b = true) (rd : rdK kd d = true) (st : stK A.io kd a [b, d] = true) (st2 : stK A.io kd b [d] = true) (hm : lastMarks [op, op2] [eb, ed] = false) :
    PT X (.Compare ea [op, op2] [eb, ed] pos) (tT A kd (.cmp2 c c2 a b d)) := by
  rw [← hK] at ho ho2
  refine PT.imp (pt_chain ho ho2 ha hb hd hm) fun σ H Q ⟨F, env, tm, t, env', R, n, ev, q⟩ => ?_
  refine cmp2_imp ra rb rd st st2 σ H (fun x H' => ∃ k, x = .bl k ∧ Q k H') ⟨F, env, tm, t, env', R, n, ev, fun v F1 H1 R1 s1 => ?_⟩
  obtain ⟨x, env1, y, env2, z, h1, h2, h3, h4⟩ := evE_cmp2 ev
  obtain ⟨zz, rfl⟩ : ∃ zz, t = .bl zz := by
    rcases h4 with ⟨_, e, _⟩ | ⟨_, _, z2, _, _, e⟩
    · exact ⟨_, e⟩
    · exact ⟨_, e⟩
  obtain ⟨F2, R2, s2⟩ := R1.frz
  have e := (R2.rep (t := .bl zz) (v := v) (j := tm.length) (by simp)).blv
  exact ⟨zz, e, q F1 H1 R1.pops s1⟩

/-! ### x[i], x[i:j], x[::-1] -/
theorem evE_ix {C : Cal} {a b : Ir} {env env' : Env} {t : T} (h : evE C (.ix a b) env = some (t, env')) : ∃ x env1 y, evE C a env = some (x, env1) ∧ evE C b env1 = some (y, env') ∧ ixT x y = some t := by
  unfold evE at h
  obtain ⟨⟨x, e1⟩, h1, h⟩ := bind_some h
  obtain ⟨⟨y, e2⟩, h2, h⟩ := bind_some h
  obtain ⟨z, h3, h⟩ := bind_some h
  cases h
  exact ⟨x, e1, y, h1, h2, h3⟩
theorem s_ix {a b : Ir} {ea eb : Expr} {pos : Pos} (hK : A.K = X.K) (ha : PE X ea (tR A kd a)) (hb : PE X eb (tR A kd b)) (ra : rdK kd a = true) (rb : rdK kd b = true) (st : stK A.io kd a [b] = true) (hs : PlainIx eb) :
    PE X (.Subscript ea eb pos) (tF A kd 0 (.ix a b)) := by
  have ho : IxR X (rT2o A.K ixT) := by rw [hK]; exact r_ix
  exact PE.imp (pe_ix ho ha hb hs) (op2_impo (fun env t env' h => evE_ix h) (fun i h => Bool.or_eq_false_iff.mp h) ra rb st)
theorem evE_rev {C : Cal} {a : Ir} {env env' : Env} {t : T} (h : evE C (.rev a) env = some (t, env')) : ∃ x, evE C a env = some (x, env') ∧ revT x = some t := by
  unfold evE at h
  obtain ⟨⟨x, e1⟩, h1, h⟩ := bind_some h
  obtain ⟨z, h2, h⟩ := bind_some h
  cases h
  exact ⟨x, h1, h2⟩
theorem s_rev {a : Ir} {e : Expr} {k : Nat} {p1 p2 p3 pos : Pos} (hK : A.K = X.K) (ha : PE X e (tR A kd a)) (ra : rdK kd a = true) :
    PE X (.Subscript e (.Slice none none (some (.UnaryOp .USub (.Constant (.int 1) k p1) p2)) p3) pos) (tF A kd 1 (.rev a)) :=
  PE.imp (p_rev ha) (by rw [← hK]; exact op1_imp (fun env t env' h => evE_rev h) (fun i h => h) ra)
variable (A kd) in
/-- a slice's part -/
def tO (x : Option Ir) : TO := fun σ H Q => ∃ F env tm k env', SR A kd F H env σ tm ∧ (∀ e ∈ tm, ∀ i, e.k = .al i → tchO A.io i x = false) ∧ evO A.C x env = some (k, env') ∧ ∀ F' H', SR A kd F' H' env' σ tm → Same F F' → Q k H'
theorem PO.imp {e : Option Expr} {t t' : TO} (h : PO X e t) (i : ∀ σ H Q, t' σ H Q → t σ H Q) : PO X e t' := ⟨fun pins s σ H Q I q => h.run pins s σ H Q I (i σ H Q q)⟩
theorem o_none : PO X none (tO A kd none) := PO.imp po_none fun σ H Q ⟨F, env, tm, k, env', R, n, ev, q⟩ => by
  obtain ⟨rfl, rfl⟩ := evO_none ev
  exact q F H R (Same.refl F)
theorem o_some {a : Ir} {e : Expr} (ha : PE X e (tR A kd a)) : PO X (some e) (tO A kd (some a)) := PO.imp (po_some ha) fun σ H Q ⟨F, env, tm, k, env', R, n, ev, q⟩ => by
  obtain ⟨i, h1, rfl⟩ := evO_some ev
  refine ⟨F, env, tm, .int i, env', R, n, h1, fun kk v F1 H1 kr R1 s1 => ⟨i, R1.intv kr, q F1 H1 R1.pops s1⟩⟩
theorem evE_sl {C : Cal} {a : Ir} {lo hi : Option Ir} {env env' : Env} {t : T} (h : evE C (.sl a lo hi) env = some (t, env')) : ∃ x env1 l env2 u, evE C a env = some (x, env1) ∧ evO C lo env1 = some (l, env2) ∧ evO C hi env2 = some (u, env') ∧ slT x l u = some t := by
  unfold evE at h
  obtain ⟨⟨x, e1⟩, h1, h⟩ := bind_some h
  obtain ⟨⟨y, e2⟩, h2, h⟩ := bind_some h
  obtain ⟨⟨z, e3⟩, h3, h⟩ := bind_some h
  obtain ⟨w, h4, h⟩ := bind_some h
  cases h
  exact ⟨x, e1, y, e2, z, h1, h2, h3, h4⟩
def stO (io : Nat → Nat → Bool) (kd : List Kd) (a : Ir) (lo hi : Option Ir) : Bool := match a with
  | .nm i => (match kd[i]? with | some (.own 0) => true | _ => false) || (!tchO io i lo && !tchO io i hi)
  | _ => true
theorem s_sl {a : Ir} {lo hi : Option Ir} {e : Expr} {el eh : Option Expr} {p2 pos : Pos} (hK : A.K = X.K) (ha : PE X e (tR A kd a)) (hl : PO X el (tO A kd lo)) (hh : PO X eh (tO A kd hi)) (ra : rdK kd a = true) (st : stO A.io kd a lo hi = true) :
    PE X (.Subscript e (.Slice el eh none p2) pos) (tF A kd 1 (.sl a lo hi)) := by
  have ho : SlR X (rSlE A.K) := by rw [hK]; exact r_sl
  refine PE.imp (pe_slice ho ha hl hh) fun σ H Q ⟨F, env, tm, t, env', R, n, ev, q⟩ => ?_
  obtain ⟨x, env1, l, env2, u, h1, h2, h3, h4⟩ := evE_sl ev
  have n0 : ∀ e ∈ tm, ∀ i, e.k = .al i → (tchE A.io i a || tchO A.io i lo || tchO A.io i hi) = false := n
  have n1 : NoT A a tm := fun e he i z => (Bool.or_eq_false_iff.mp (Bool.or_eq_false_iff.mp (n0 e he i z)).1).1
  have n2 : ∀ e ∈ tm, ∀ i, e.k = .al i → tchO A.io i lo = false := fun e he i z => (Bool.or_eq_false_iff.mp (Bool.or_eq_false_iff.mp (n0 e he i z)).1).2
  have n3 : ∀ e ∈ tm, ∀ i, e.k = .al i → tchO A.io i hi = false := fun e he i z => (Bool.or_eq_false_iff.mp (n0 e he i z)).2
  refine ⟨F, env, tm, x, env1, R, n1, h1, fun k v F1 H1 kr R1 s1 => ?_⟩
  have nal : ∀ i, k = .al i → tchO A.io i lo = false ∧ tchO A.io i hi = false := fun i hk => by
    rcases kr with rfl | ⟨j, rfl, rfl, hj⟩
    · cases hk
    · injection hk with hk
      subst hk
      have st : ((match kd[j]? with | some (.own 0) => true | _ => false) || (!tchO A.io j lo && !tchO A.io j hi)) = true := st
      rcases Bool.or_eq_true_iff.mp st with z | z
      · split at z
        · exact absurd (by assumption) hj
        · cases z
      · simpa using z
  refine ⟨F1, env1, tm ++ [⟨k, x, v⟩], l, env2, R1, fun e he i z => ?_, h2, fun F2 H2 R2 s2 => ?_⟩
  · rcases List.mem_append.mp he with he | he
    · exact n2 e he i z
    · have : e = ⟨k, x, v⟩ := by simpa using he
      subst this
      exact (nal i z).1
  refine ⟨F2, env2, tm ++ [⟨k, x, v⟩], u, env', R2, fun e he i z => ?_, h3, fun F3 H3 R3 s3 => ?_⟩
  · rcases List.mem_append.mp he with he | he
    · exact n3 e he i z
    · have : e = ⟨k, x, v⟩ := by simpa using he
      subst this
      exact (nal i z).2
  refine ⟨F3, x, t, R3.lay.fh, R3.shalR (j := tm.length) (by simp) kr ra, h4, fun w H4 o => ?_⟩
  obtain ⟨F5, R5, s5⟩ := R3.pops.fin1 o
  exact q w F5 H4 R5 (((s1.trans s2).trans s3).trans s5)
end
end Pv
end

section
set_option Elab.async false
set_option linter.all false
set_option maxRecDepth 100000
/-! PvL: what a for or a comprehension walks. -/
namespace Pv
open PySem PySem.Spec PyProof.Rows L2

/-- the walk J yields the items l, whatever is done between -/
def Walks (K : PySem.W.Frag) (G F1 : Hp) (J : It) (l : List T) : Prop := ∀ F H, Same F1 F → Same F H → Same G H →
  (∀ i, l.length ≤ i → J.stop i H) ∧ ∀ i t, l[i]? = some t → J.go i H ∧ ∀ x H', J.yld i H x H' → Out K F H t x H'
section
variable {K : PySem.W.Frag} {G F1 : Hp}
theorem walk_list {a : Addr} {l : List T} {xs : List V} (h : F1 a = some (.lst xs) ∨ G a = some (.lst xs)) (r : Reps K F1 l xs) : Walks K G F1 (Itl K a) l := fun F H s1 s2 s3 => by
  have e : H a = some (.lst xs) := h.elim (fun z => s2 _ _ (s1 _ _ z)) fun z => s3 _ _ z
  refine ⟨fun i hi => ⟨xs, SqL.of e, by rw [← r.length]; exact hi⟩, fun i t ht => ?_⟩
  obtain ⟨x, hx, rx⟩ := r.get ht
  refine ⟨⟨xs, x, SqL.of e, hx⟩, fun y H' ⟨e1, e2⟩ => ?_⟩
  have := e2 xs (SqL.of e)
  rw [hx] at this
  cases this
  exact .inr ⟨e1, rx.mono s1⟩
theorem walk_tup {a : Addr} {l : List T} {xs : List V} (h : SqT K F1 a xs) (r : Reps K F1 l xs) : Walks K G F1 (Itt K a) l := fun F H s1 s2 s3 => by
  have e : SqT K H a xs := Same.seqT s2 (Same.seqT s1 h)
  refine ⟨fun i hi => ⟨xs, e, by rw [← r.length]; exact hi⟩, fun i t ht => ?_⟩
  obtain ⟨x, hx, rx⟩ := r.get ht
  refine ⟨⟨xs, x, e, hx⟩, fun y H' ⟨e1, e2⟩ => ?_⟩
  have := e2 xs e
  rw [hx] at this
  cases this
  exact .inr ⟨e1, rx.mono s1⟩
theorem walk_str {s : List Nat} (h : strOkL s = true) : Walks K G F1 (Its ⟨s.toArray⟩) (s.map fun c => .str [c]) := fun F H s1 s2 s3 => by
  refine ⟨fun i hi => ?_, fun i t ht => ?_⟩
  · show s.toArray.size ≤ i
    simpa using hi
  · obtain ⟨c, hc, rfl⟩ : ∃ c, s[i]? = some c ∧ T.str [c] = t := by
      rw [List.getElem?_map] at ht
      exact Option.map_eq_some_iff.mp ht
    refine ⟨?_, fun y H' ⟨e1, c', e2, e3⟩ => ?_⟩
    · show i < s.toArray.size
      have := lt_of_get hc
      simpa using this
    · have e4 : c' = c := by
        have e2 : s.toArray[i]? = some c' := e2
        have : s[i]? = some c' := by simpa using e2
        rw [hc] at this
        exact (Option.some.inj this).symm
      subst e4 e3
      refine .inr ⟨e1, .str [c'] (strOk_mem h fun d hd => ?_) rfl⟩
      have : d = c' := by simpa using hd
      rw [this]
      exact List.mem_of_getElem? hc
theorem walk_range {lo : Int} {n : Nat} : Walks K G F1 (Itr lo n) ((List.range n).map fun (k : Nat) => T.int (lo + (k : Int))) := fun F H s1 s2 s3 => by
  refine ⟨fun i hi => ?_, fun i t ht => ?_⟩
  · show n ≤ i
    simpa using hi
  · rw [List.getElem?_map] at ht
    obtain ⟨k, hk, rfl⟩ := Option.map_eq_some_iff.mp ht
    have hi : i < n := by
      have := lt_of_get hk
      simpa using this
    have ek : k = i := by
      rw [List.getElem?_range hi] at hk
      exact (Option.some.inj hk).symm
    subst ek
    refine ⟨hi, fun y H' ⟨e1, e2⟩ => ?_⟩
    subst e2
    exact .inr ⟨e1, .int _⟩
theorem walk_enum {a : Addr} {l : List T} {xs : List V} (h : F1 a = some (.lst xs) ∨ G a = some (.lst xs)) (r : Reps K F1 l xs) : Walks K G F1 (Ite K a) (l.mapIdx fun k t => .tup [.int (k : Int), t]) := fun F H s1 s2 s3 => by
  have e : H a = some (.lst xs) := h.elim (fun z => s2 _ _ (s1 _ _ z)) fun z => s3 _ _ z
  refine ⟨fun i hi => ⟨xs, SqL.of e, by rw [← r.length]; simpa using hi⟩, fun i t ht => ?_⟩
  rw [List.getElem?_mapIdx] at ht
  obtain ⟨u, hu, rfl⟩ := Option.map_eq_some_iff.mp ht
  obtain ⟨x, hx, rx⟩ := r.get hu
  refine ⟨⟨xs, x, SqL.of e, hx⟩, fun y H' ⟨p, x', e1, e2, e3, e4⟩ => ?_⟩
  have := e4 xs (SqL.of e)
  rw [hx] at this
  cases this
  exact .inl (.inr (.inr ⟨p, _, _, rfl, e1, e2, e3, .cons (.int _) (.cons (rx.mono s1) .nil)⟩))
theorem walk_zip {a b : Addr} {l m : List T} {xs ys : List V} (h : F1 a = some (.lst xs) ∨ G a = some (.lst xs)) (h' : F1 b = some (.lst ys) ∨ G b = some (.lst ys)) (r : Reps K F1 l xs) (r' : Reps K F1 m ys) : Walks K G F1 (Itz K a b) (List.zipWith (fun t u => .tup [t, u]) l m) := fun F H s1 s2 s3 => by
  have e : H a = some (.lst xs) := h.elim (fun z => s2 _ _ (s1 _ _ z)) fun z => s3 _ _ z
  have e' : H b = some (.lst ys) := h'.elim (fun z => s2 _ _ (s1 _ _ z)) fun z => s3 _ _ z
  refine ⟨fun i hi => ⟨xs, ys, SqL.of e, SqL.of e', ?_⟩, fun i t ht => ?_⟩
  · rw [List.length_zipWith, r.length, r'.length] at hi
    omega
  · rw [List.getElem?_zipWith] at ht
    cases e1 : l[i]? with
    | none => rw [e1] at ht; simp at ht
    | some t1 =>
      cases e2 : m[i]? with
      | none => rw [e1, e2] at ht; simp at ht
      | some t2 =>
        rw [e1, e2] at ht
        cases ht
        obtain ⟨x, hx, rx⟩ := r.get e1
        obtain ⟨y, hy, ry⟩ := r'.get e2
        refine ⟨⟨xs, ys, x, y, SqL.of e, SqL.of e', hx, hy⟩, fun z H' ⟨p, x', y', z1, z2, z3, z4, z5⟩ => ?_⟩
        have := z4 xs (SqL.of e)
        rw [hx] at this
        cases this
        have := z5 ys (SqL.of e')
        rw [hy] at this
        cases this
        exact .inl (.inr (.inr ⟨p, _, _, rfl, z1, z2, z3, .cons (rx.mono s1) (.cons (ry.mono s1) .nil)⟩))
end

section
variable {A : Act} {kd : List Kd} {X : Cx} {tg : Expr}
theorem PI.imp {it : Expr} {t t' : TI} (h : PI X tg it t) (i : ∀ σ H R, t' σ H R → t σ H R) : PI X tg it t' := ⟨fun pins s σ H R I q => h.run pins s σ H R I (i σ H R q)⟩
theorem PI.or {it : Expr} {t t' : TI} (h : PI X tg it t) (h' : PI X tg it t') : PI X tg it (fun σ H R => t σ H R ∨ t' σ H R) := ⟨fun pins s σ H R I q => q.elim (h.run pins s σ H R I) (h'.run pins s σ H R I)⟩
variable (A kd) in
def tI (x : Wk) : TI := fun σ H R => ∃ F env tm l env', SR A kd F H env σ tm ∧ (∀ e ∈ tm, ∀ i, e.k = .al i → tchI A.io i x = false) ∧ evI A.C x env = some (l, env') ∧ ∀ J F' H', SR A kd F' H' env' σ tm → Same F F' → Walks A.K A.G F' J l → R J H'
/-- its list stays while it is walked -/
def wkK (kd : List Kd) : Ir → Bool
  | .nm i => match kd[i]? with | some (.own 0) => true | some .bor => true | _ => false
  | _ => true
theorem SR.bor {F H : Hp} {env : Env} {σ : L2.St} {tm : List Ent} {x : Ir} {k : Kd} {t : T} {v : V} (R : SR A kd F H env σ tm) {j : Nat} (h : tm[j]? = some ⟨k, t, v⟩) (kr : KR kd x k) (wk : wkK kd x = true) : Rep A.K F t v ∨ Bor A.K A.G F t v := by
  rcases kr with rfl | ⟨i, rfl, rfl, hi⟩
  · exact .inl (R.rep h)
  · have h1 : (slotsOf kd env σ ++ tm)[(slotsOf kd env σ).length + j]? = some ⟨.al i, t, v⟩ := by
      rw [List.getElem?_append_right (by omega), show (slotsOf kd env σ).length + j - (slotsOf kd env σ).length = j by omega]
      exact h
    obtain ⟨_, k', h2, h3⟩ := R.lay.ali _ i t v h1
    have wk : (match kd[i]? with | some (.own 0) => true | some .bor => true | _ => false) = true := wk
    split at wk
    · exact absurd (by assumption) hi
    · rename_i e
      have hil : i < (slotsOf kd env σ).length := by rw [R.slen, ← R.lk]; exact lt_of_get e
      have h4 := h2
      rw [List.getElem?_append_left hil] at h4
      rcases slotsOf_inv h4 with e' | ⟨e', _, _⟩
      · have e' := congrArg Ent.k e'
        have e' : k' = .un := e'
        subst e'
        cases h3
      · rw [e] at e'
        have e' : Kd.bor = k' := Option.some.inj e'
        subst e'
        obtain ⟨al, z⟩ := R.lay.ent h2
        exact .inr (show al = [] ∧ Bor A.K A.G F t v from z).2
    · cases wk
theorem last_get {α : Type} {tm : List α} {e : α} : (tm ++ [e])[tm.length]? = some e := by simp
theorem bor_lst {K : PySem.W.Frag} {G F : Hp} {l : List T} {v : V} (h : Rep K F (.lst l) v ∨ Bor K G F (.lst l) v) : ∃ a xs, v = .ref a ∧ (F a = some (.lst xs) ∨ G a = some (.lst xs)) ∧ Reps K F l xs := by
  rcases h with h | ⟨a, xs, rfl, h1, h2⟩
  · cases h with | lst h1 h2 => exact ⟨_, _, rfl, .inl h1, h2⟩
  · exact ⟨a, xs, rfl, .inr h1, h2⟩
theorem evI_ex {C : Cal} {x : Ir} {env env' : Env} {l : List T} (h : evI C (.ex x) env = some (l, env')) : ∃ t, evE C x env = some (t, env') ∧ iterT t = some l := by
  unfold evI at h
  obtain ⟨⟨x, e1⟩, h1, h⟩ := bind_some h
  obtain ⟨z, h2, h⟩ := bind_some h
  cases h
  exact ⟨x, h1, h2⟩
theorem i_ex {x : Ir} {e : Expr} (hK : A.K = X.K) (ha : PE X e (tR A kd x)) (wk : wkK kd x = true) : PI X tg e (tI A kd (.ex x)) :=
  PI.imp (PI.or (pi_list ha) (PI.or (pi_tup ha) (pi_str ha))) fun σ H R ⟨F, env, tm, l, env', R0, n, ev, q⟩ => by
    obtain ⟨t, h1, h2⟩ := evI_ex ev
    rw [← hK]
    cases t with
    | lst ts =>
      cases h2
      refine .inl ⟨F, env, tm, _, env', R0, n, h1, fun k v F1 H1 kr R1 s1 => ?_⟩
      obtain ⟨a, xs, rfl, g1, g2⟩ := bor_lst (R1.bor last_get kr wk)
      exact ⟨a, rfl, ⟨xs, SqL.of (g1.elim (R1.lay.fh _ _) (R1.lay.gh _ _))⟩, q _ F1 H1 R1.pops s1 (walk_list g1 g2)⟩
    | tup ts =>
      have h2 : some ts = some l := h2
      injection h2 with h2
      subst h2
      refine .inr (.inl ⟨F, env, tm, _, env', R0, n, h1, fun k v F1 H1 kr R1 s1 => ?_⟩)
      have g : Rep A.K F1 (.tup ts) v := (R1.bor last_get kr wk).elim id id
      cases g with | tup g1 g2 =>
      exact ⟨_, rfl, ⟨_, Same.seqT R1.lay.fh g1⟩, q _ F1 H1 R1.pops s1 (walk_tup g1 g2)⟩
    | str s =>
      cases h2
      refine .inr (.inr ⟨F, env, tm, _, env', R0, n, h1, fun k v F1 H1 kr R1 s1 => ?_⟩)
      have g : Rep A.K F1 (.str s) v := (R1.bor last_get kr wk).elim id id
      cases g with | str _ g1 g2 =>
      exact ⟨_, rfl, q _ F1 H1 R1.pops s1 (walk_str g1)⟩
    | _ => cases h2
theorem evI_range {C : Cal} {x : Ir} {env env' : Env} {l : List T} (h : evI C (.range x) env = some (l, env')) : ∃ n : Int, evE C x env = some (.int n, env') ∧ -1000000 ≤ n ∧ n ≤ 1000000 ∧ l = (List.range n.toNat).map fun (k : Nat) => T.int (0 + (k : Int)) := by
  unfold evI at h
  obtain ⟨⟨x, e1⟩, h1, h⟩ := bind_some h
  cases x with
  | int n =>
    have h : (if (decide (-1000000 ≤ n) && decide (n ≤ 1000000)) = true then some ((List.range n.toNat).map fun (k : Nat) => T.int (0 + (k : Int)), e1) else none) = some (l, env') := h
    by_cases hn : (decide (-1000000 ≤ n) && decide (n ≤ 1000000)) = true
    · rw [if_pos hn] at h
      cases h
      obtain ⟨q1, q2⟩ := Bool.and_eq_true_iff.mp hn
      exact ⟨n, h1, of_decide_eq_true q1, of_decide_eq_true q2, rfl⟩
    · rw [if_neg hn] at h; cases h
  | _ => cases h
/-- an argument list of one -/
theorem a_one {x : Ir} {e : Expr} (he : PE X e (tR A kd x)) (hs : starEach [e] X.env = [(false, eval e X.env)]) : PA X [e] (tRs A kd [x]) := a_cons he a_nil (by unfold stK; cases x <;> simp [tchEs]) (by rw [hs]; rfl)
theorem KRs.one {x : Ir} {t : T} {es : List Ent} (k : KRs kd [x] [t] es) : ∃ kk v, es = [⟨kk, t, v⟩] ∧ KR kd x kk := by
  cases k with | cons h1 h2 => cases h2 with | nil => exact ⟨_, _, rfl, h1⟩
theorem evEs_one {C : Cal} {x : Ir} {env env' : Env} {t : T} (h : evE C x env = some (t, env')) : evEs C [x] env = some ([t], env') := by
  unfold evEs
  rw [h]
  show (do let (xs, env) ← evEs C [] env'; some (t :: xs, env)) = _
  unfold evEs
  rfl
theorem i_range {x : Ir} {e : Expr} {p pos : Pos} (hg : Gl X "range") (hm : X.mg "range" = none) (ha : PE X e (tR A kd x)) (hs : starEach [e] X.env = [(false, eval e X.env)]) : PI X tg (.Call (.Name "range" p) [e] [] pos) (tI A kd (.range x)) :=
  PI.imp (pi_range1 hg hm (a_one ha hs) hs) fun σ H R ⟨F, env, tm, l, env', R0, n, ev, q⟩ => by
    obtain ⟨j, h1, h2, h3, rfl⟩ := evI_range ev
    refine ⟨F, env, tm, _, env', R0, fun e he i z => ?_, evEs_one h1, fun es F1 H1 ks R1 s1 => ?_⟩
    · show (tchE A.io i x || false) = false
      rw [Bool.or_false]; exact n e he i z
    · obtain ⟨kk, v, rfl, kr⟩ := ks.one
      have ev' := R1.intv kr
      subst ev'
      exact ⟨j, rfl, by omega, by omega, q _ F1 H1 R1.pops s1 walk_range⟩
theorem KRs.two {x y : Ir} {t u : T} {es : List Ent} (k : KRs kd [x, y] [t, u] es) : ∃ kk v kk2 v2, es = [⟨kk, t, v⟩, ⟨kk2, u, v2⟩] ∧ KR kd x kk ∧ KR kd y kk2 := by
  cases k with | cons h1 h2 => 
  cases h2 with | cons h3 h4 =>
  cases h4 with | nil => exact ⟨_, _, _, _, rfl, h1, h3⟩
theorem evEs_two {C : Cal} {x y : Ir} {env env1 env' : Env} {t u : T} (h : evE C x env = some (t, env1)) (h' : evE C y env1 = some (u, env')) : evEs C [x, y] env = some ([t, u], env') := by
  unfold evEs
  rw [h]
  show (do let (xs, env) ← evEs C [y] env1; some (t :: xs, env)) = _
  rw [evEs_one h']
  rfl
theorem a_two {x y : Ir} {e f : Expr} (he : PE X e (tR A kd x)) (hf : PE X f (tR A kd y)) (st : stK A.io kd x [y] = true) (hs : starEach [e, f] X.env = [(false, eval e X.env), (false, eval f X.env)]) (hs2 : starEach [f] X.env = [(false, eval f X.env)]) : PA X [e, f] (tRs A kd [x, y]) :=
  a_cons he (a_one hf hs2) st (by rw [hs, hs2])
theorem evI_range2 {C : Cal} {x y : Ir} {env env' : Env} {l : List T} (h : evI C (.range2 x y) env = some (l, env')) : ∃ (m n : Int) (env1 : Env), evE C x env = some (.int m, env1) ∧ evE C y env1 = some (.int n, env') ∧ -1000000 ≤ m ∧ m ≤ 1000000 ∧ -1000000 ≤ n ∧ n ≤ 1000000 ∧ l = (List.range (n - m).toNat).map fun (k : Nat) => T.int (m + (k : Int)) := by
  unfold evI at h
  obtain ⟨⟨x, e1⟩, h1, h⟩ := bind_some h
  obtain ⟨⟨y, e2⟩, h2, h⟩ := bind_some h
  cases x with
  | int m =>
    cases y with
    | int n =>
      have h : (if (decide (-1000000 ≤ m) && decide (m ≤ 1000000) && decide (-1000000 ≤ n) && decide (n ≤ 1000000)) = true then some ((List.range (n - m).toNat).map fun (k : Nat) => T.int (m + (k : Int)), e2) else none) = some (l, env') := h
      by_cases hn : (decide (-1000000 ≤ m) && decide (m ≤ 1000000) && decide (-1000000 ≤ n) && decide (n ≤ 1000000)) = true
      · rw [if_pos hn] at h
        cases h
        simp only [Bool.and_eq_true, decide_eq_true_eq] at hn
        exact ⟨m, n, e1, h1, h2, hn.1.1.1, hn.1.1.2, hn.1.2, hn.2, rfl⟩
      · rw [if_neg hn] at h; cases h
    | _ => cases h
  | _ => cases h
theorem i_range2 {x y : Ir} {e f : Expr} {p pos : Pos} (hg : Gl X "range") (hm : X.mg "range" = none) (ha : PE X e (tR A kd x)) (hb : PE X f (tR A kd y)) (st : stK A.io kd x [y] = true) (hs : starEach [e, f] X.env = [(false, eval e X.env), (false, eval f X.env)]) (hs2 : starEach [f] X.env = [(false, eval f X.env)]) :
    PI X tg (.Call (.Name "range" p) [e, f] [] pos) (tI A kd (.range2 x y)) :=
  PI.imp (pi_range2 hg hm (a_two ha hb st hs hs2) hs hs2) fun σ H R ⟨F, env, tm, l, env', R0, n, ev, q⟩ => by
    obtain ⟨i, j, env1, h1, h2, h3, h4, h5, h6, rfl⟩ := evI_range2 ev
    refine ⟨F, env, tm, _, env', R0, fun e he i z => ?_, evEs_two h1 h2, fun es F1 H1 ks R1 s1 => ?_⟩
    · have z := Bool.or_eq_false_iff.mp (show (tchE A.io i x || tchE A.io i y) = false from n e he i z)
      show (tchE A.io i x || (tchE A.io i y || false)) = false
      rw [z.1, z.2]; rfl
    · obtain ⟨kk, v, kk2, v2, rfl, kr, kr2⟩ := ks.two
      have e2 := SR.intv (tm := tm ++ [⟨kk, .int i, v⟩]) (by simpa using R1) kr2
      subst e2
      have e1 := SR.intv (tm := tm) (SR.pops (es := [⟨kk2, .int j, .int j⟩]) (by simpa using R1)) kr
      subst e1
      exact ⟨i, j, rfl, ⟨by omega, by omega, by omega, by omega⟩, q _ F1 H1 R1.pops s1 walk_range⟩
theorem evI_enum {C : Cal} {x : Ir} {env env' : Env} {l : List T} (h : evI C (.enum x) env = some (l, env')) : ∃ ts, evE C x env = some (.lst ts, env') ∧ l = ts.mapIdx fun k t => .tup [.int (k : Int), t] := by
  unfold evI at h
  obtain ⟨⟨x, e1⟩, h1, h⟩ := bind_some h
  obtain ⟨z, h2, h⟩ := bind_some h
  have e2 := listOf_some h2
  have h9 : some (z.mapIdx fun k t => T.tup [.int (k : Int), t], e1) = some (l, env') := h
  subst e2
  cases h9
  exact ⟨z, h1, rfl⟩
theorem i_enum {x : Ir} {e : Expr} {p pos tpos : Pos} {elts : List Expr} {kk : Nat} (hK : A.K = X.K) (hg : Gl X "enumerate") (hm : X.mg "enumerate" = none) (ha : PE X e (tR A kd x)) (wk : wkK kd x = true) (hs : starEach [e] X.env = [(false, eval e X.env)]) :
    PI X (.Tuple elts kk tpos) (.Call (.Name "enumerate" p) [e] [] pos) (tI A kd (.enum x)) :=
  PI.imp (pi_enum hg hm (a_one ha hs) hs) fun σ H R ⟨F, env, tm, l, env', R0, n, ev, q⟩ => by
    obtain ⟨ts, h1, rfl⟩ := evI_enum ev
    rw [← hK]
    refine ⟨F, env, tm, _, env', R0, fun e he i z => ?_, evEs_one h1, fun es F1 H1 ks R1 s1 => ?_⟩
    · show (tchE A.io i x || false) = false
      rw [Bool.or_false]; exact n e he i z
    · obtain ⟨kk, v, rfl, kr⟩ := ks.one
      obtain ⟨a, xs, rfl, g1, g2⟩ := bor_lst (R1.bor last_get kr wk)
      exact ⟨a, xs, rfl, SqL.of (g1.elim (R1.lay.fh _ _) (R1.lay.gh _ _)), q _ F1 H1 R1.pops s1 (walk_enum g1 g2)⟩
theorem evI_zip {C : Cal} {x y : Ir} {env env' : Env} {l : List T} (h : evI C (.zip x y) env = some (l, env')) : ∃ ts us env1, evE C x env = some (.lst ts, env1) ∧ evE C y env1 = some (.lst us, env') ∧ l = List.zipWith (fun t u => .tup [t, u]) ts us := by
  unfold evI at h
  obtain ⟨⟨x, e1⟩, h1, h⟩ := bind_some h
  obtain ⟨⟨y, e2⟩, h2, h⟩ := bind_some h
  obtain ⟨z, h3, h⟩ := bind_some h
  obtain ⟨z2, h4, h⟩ := bind_some h
  have e3 := listOf_some h3
  have e4 := listOf_some h4
  have h9 : some (List.zipWith (fun t u => T.tup [t, u]) z z2, e2) = some (l, env') := h
  subst e3 e4
  cases h9
  exact ⟨z, z2, e1, h1, h2, rfl⟩
theorem i_zip {x y : Ir} {e f : Expr} {p pos tpos : Pos} {elts : List Expr} {kk : Nat} (hK : A.K = X.K) (hg : Gl X "zip") (hm : X.mg "zip" = none) (ha : PE X e (tR A kd x)) (hb : PE X f (tR A kd y)) (wk : wkK kd x = true) (wk2 : wkK kd y = true) (st : stK A.io kd x [y] = true)
    (hs : starEach [e, f] X.env = [(false, eval e X.env), (false, eval f X.env)]) (hs2 : starEach [f] X.env = [(false, eval f X.env)]) :
    PI X (.Tuple elts kk tpos) (.Call (.Name "zip" p) [e, f] [] pos) (tI A kd (.zip x y)) :=
  PI.imp (pi_zip hg hm (a_two ha hb st hs hs2) (by rw [hs, hs2]) (by rw [hs2]; rfl)) fun σ H R ⟨F, env, tm, l, env', R0, n, ev, q⟩ => by
    obtain ⟨ts, us, env1, h1, h2, rfl⟩ := evI_zip ev
    rw [← hK]
    refine ⟨F, env, tm, _, env', R0, fun e he i z => ?_, evEs_two h1 h2, fun es F1 H1 ks R1 s1 => ?_⟩
    · have z := Bool.or_eq_false_iff.mp (show (tchE A.io i x || tchE A.io i y) = false from n e he i z)
      show (tchE A.io i x || (tchE A.io i y || false)) = false
      rw [z.1, z.2]; rfl
    · obtain ⟨kk, v, kk2, v2, rfl, kr, kr2⟩ := ks.two
      have R2 : SR A kd F1 H1 env' σ ((tm ++ [⟨kk, .lst ts, v⟩]) ++ [⟨kk2, .lst us, v2⟩]) := by simpa using R1
      obtain ⟨b, ys, rfl, g3, g4⟩ := bor_lst (R2.bor last_get kr2 wk2)
      obtain ⟨a, xs, rfl, g1, g2⟩ := bor_lst (R2.pops.bor last_get kr wk)
      exact ⟨a, b, xs, ys, rfl, SqL.of (g1.elim (R1.lay.fh _ _) (R1.lay.gh _ _)), SqL.of (g3.elim (R1.lay.fh _ _) (R1.lay.gh _ _)), q _ F1 H1 R1.pops s1 (walk_zip g1 g3 g2 g4)⟩
end
end Pv
end

section
set_option Elab.async false
set_option linter.all false
set_option maxRecDepth 100000
/-! PvM: names are bound, forgotten, restored. -/
namespace Pv
open PySem PySem.Spec PyProof.Rows L2

def entOf (k : Kd) (o : Option T) (s : Option V) : Ent := match o, s with
  | some t, some v => ⟨k, t, v⟩
  | _, _ => ⟨.un, .non, .non⟩
theorem slotsOf_at : ∀ {kd : List Kd} {env : Env} {σ : L2.St} {i : Nat}, (slotsOf kd env σ)[i]? = (kd[i]?).bind fun k => (env[i]?).bind fun o => (σ[i]?).map fun s => entOf k o s
  | [], _, _, i => by
    show ([] : List Ent)[i]? = _
    simp
  | _ :: _, [], _, i => by
    show ([] : List Ent)[i]? = _
    cases i <;> simp
  | _ :: _, _ :: _, [], i => by
    show ([] : List Ent)[i]? = _
    cases i <;> simp
  | k :: ks, o :: os, s :: ss, 0 => by
    cases o <;> cases s <;> rfl
  | k :: ks, o :: os, s :: ss, i + 1 => by
    show (slotsOf ks os ss)[i]? = _
    rw [slotsOf_at]
    simp
section
variable {K : PySem.W.Frag} {G F H : Hp} {es es' : List Ent}
/-- entries are forgotten, or stand anew by what is frozen -/
theorem Lay.sub (L : Lay K G F H es) (h1 : ∀ (j : Nat) (e' : Ent), es'[j]? = some e' → es[j]? = some e' ∨ e'.k = .un ∨ (e'.k = .own 0 ∧ Rep K F e'.t e'.v))
    (h2 : ∀ (i : Nat) (e : Ent), es[i]? = some e → e.k.nm = true → es'[i]? = some e ∨ NoAl es i) : Lay K G F H es' := by
  obtain ⟨c, q⟩ := L.col
  refine ⟨L.fh, L.gh, ⟨c, fun j e hj => ?_⟩, fun j i t v hj => ?_⟩
  · rcases h1 j e hj with h | h | ⟨h, r⟩
    · exact q j e h
    · refine ⟨[], ?_, List.nodup_nil, fun a ha => by cases ha⟩
      rw [h]; exact rfl
    · refine ⟨[], ?_, List.nodup_nil, fun a ha => by cases ha⟩
      rw [h]; exact ⟨rfl, r⟩
  · rcases h1 j _ hj with h | h | ⟨h, _⟩
    · obtain ⟨hij, k, e1, e2⟩ := L.ali j i t v h
      rcases h2 i _ e1 e2 with h3 | h3
      · exact ⟨hij, k, h3, e2⟩
      · exact absurd h (h3 j t v)
    · cases h
    · cases h
end
section
variable {A : Act} {kd : List Kd} {F H : Hp} {env env' : Env} {σ σ' : L2.St} {tm : List Ent}
/-- names are forgotten, or stand anew by what is frozen -/
theorem SR.restate (R : SR A kd F H env σ tm) (le : env'.length = env.length) (ls : σ'.length = σ.length) (iov : ∀ (i d : Nat) (v : V), A.iv[i]? = some (some (d, v)) → σ'[i]? = some (some v) ∧ kd[i]? = some (.io d))
    (h : ∀ i, (env'[i]? = env[i]? ∧ σ'[i]? = σ[i]?) ∨ ((∀ e ∈ tm, e.k ≠ .al i) ∧ ((∀ t, env'[i]? ≠ some (some t)) ∨ ∃ t v, env'[i]? = some (some t) ∧ σ'[i]? = some (some v) ∧ kd[i]? = some (.own 0) ∧ Rep A.K F t v))) : SR A kd F H env' σ' tm := by
  have sl : (slotsOf kd env' σ').length = (slotsOf kd env σ).length := by
    rw [slotsOf_length (by rw [le, ls]; exact R.le) (by rw [ls]; exact R.lk), R.slen, ls]
  refine ⟨by rw [le, ls]; exact R.le, by rw [ls]; exact R.lk, R.nal, fun i t hi => ?_, ?_, R.gr, fun e he i k => by rw [ls]; exact R.als e he i k, iov⟩
  · rcases h i with ⟨e1, e2⟩ | ⟨_, h3 | ⟨t', v, h3, h4, _⟩⟩
    · rw [e2]; exact R.bnd i t (e1 ▸ hi)
    · exact absurd hi (h3 t)
    · exact ⟨v, h4⟩
  · refine R.lay.sub (fun j e' hj => ?_) fun i e hi hn => ?_
    · by_cases hl : j < (slotsOf kd env' σ').length
      · rw [List.getElem?_append_left hl] at hj
        rw [List.getElem?_append_left (sl ▸ hl)]
        rcases h j with ⟨e1, e2⟩ | ⟨_, h3 | ⟨t', v, h3, h4, h5, h6⟩⟩
        · rw [slotsOf_at, e1, e2, ← slotsOf_at] at hj
          exact .inl hj
        · rcases slotsOf_inv hj with e | ⟨_, e2, _⟩
          · rw [e]; exact .inr (.inl rfl)
          · exact absurd e2 (h3 _)
        · have := slotsOf_get h5 h3 h4
          rw [this] at hj
          cases hj
          exact .inr (.inr ⟨rfl, h6⟩)
      · rw [List.getElem?_append_right (by omega)] at hj
        rw [List.getElem?_append_right (by rw [← sl]; omega), ← sl]
        exact .inl hj
    · by_cases hl : i < (slotsOf kd env σ).length
      · rcases h i with ⟨e1, e2⟩ | ⟨h3, _⟩
        · rw [List.getElem?_append_left hl, slotsOf_at] at hi
          rw [List.getElem?_append_left (sl ▸ hl), slotsOf_at, e1, e2]
          exact .inl hi
        · exact .inr (R.noAl h3)
      · rw [List.getElem?_append_right (by omega)] at hi
        rw [List.getElem?_append_right (by rw [sl]; omega), sl]
        exact .inl hi
theorem wipeE_get {vs : List Nat} {env : Env} {i : Nat} : (wipeE vs env)[i]? = if i ∈ vs ∧ i < env.length then some none else env[i]? := by
  induction vs with
  | nil => simp [wipeE]
  | cons v vs ih =>
    have hl : ∀ vs : List Nat, (wipeE vs env).length = env.length := fun vs => by
      induction vs with
      | nil => rfl
      | cons v vs ih => show ((wipeE vs env).set v none).length = _; rw [List.length_set, ih]
    show ((wipeE vs env).set v none)[i]? = _
    rw [List.getElem?_set, hl]
    by_cases h : v = i
    · subst h
      by_cases h2 : v < env.length
      · simp [h2]
      · simp [h2]
    · rw [if_neg h, ih]
      simp [Ne.symm h]
theorem wipeE_len {vs : List Nat} {env : Env} : (wipeE vs env).length = env.length := by
  induction vs with
  | nil => rfl
  | cons v vs ih => show ((wipeE vs env).set v none).length = _; rw [List.length_set, ih]
theorem wipe_get {vs : List Nat} {σ : L2.St} {i : Nat} : (wipe σ vs)[i]? = if i ∈ vs ∧ i < σ.length then some none else σ[i]? := by
  induction vs with
  | nil => simp [wipe]
  | cons v vs ih =>
    show ((wipe σ vs).set v none)[i]? = _
    rw [List.getElem?_set, wipe_length]
    by_cases h : v = i
    · subst h
      by_cases h2 : v < σ.length
      · simp [h2]
      · simp [h2]
    · rw [if_neg h, ih]
      simp [Ne.symm h]
theorem restore_get {vs : List Nat} {old env : Env} {i : Nat} : (restore old vs env)[i]? = if i ∈ vs ∧ i < env.length then some (old[i]?).join else env[i]? := by
  induction vs with
  | nil => simp [restore]
  | cons v vs ih =>
    have hl : ∀ vs : List Nat, (restore old vs env).length = env.length := fun vs => by
      induction vs with
      | nil => rfl
      | cons v vs ih => show ((restore old vs env).set v _).length = _; rw [List.length_set, ih]
    show ((restore old vs env).set v _)[i]? = _
    rw [List.getElem?_set, hl]
    by_cases h : v = i
    · subst h
      by_cases h2 : v < env.length
      · simp [h2]
      · simp [h2]
    · rw [if_neg h, ih]
      simp [Ne.symm h]
theorem restore_len {vs : List Nat} {old env : Env} : (restore old vs env).length = env.length := by
  induction vs with
  | nil => rfl
  | cons v vs ih => show ((restore old vs env).set v _).length = _; rw [List.length_set, ih]
theorem SR.iovW (R : SR A kd F H env σ tm) {vs : List Nat} (hk : ∀ i ∈ vs, kd[i]? = some (.own 0)) : ∀ (i d : Nat) (v : V), A.iv[i]? = some (some (d, v)) → (wipe σ vs)[i]? = some (some v) ∧ kd[i]? = some (.io d) := fun i d v h => by
  obtain ⟨h1, h2⟩ := R.iov i d v h
  refine ⟨?_, h2⟩
  rw [wipe_get, if_neg]
  · exact h1
  · rintro ⟨h3, _⟩
    have := hk i h3
    rw [h2] at this
    cases this
theorem SR.wipe (R : SR A kd F H env σ tm) {vs : List Nat} (hk : ∀ i ∈ vs, kd[i]? = some (.own 0)) (na : ∀ i ∈ vs, ∀ e ∈ tm, e.k ≠ .al i) : SR A kd F H (wipeE vs env) (wipe σ vs) tm :=
  R.restate wipeE_len (wipe_length σ vs) (R.iovW hk) fun i => by
    rw [wipeE_get, wipe_get]
    by_cases h : i ∈ vs ∧ i < σ.length
    · have h' : i ∈ vs ∧ i < env.length := ⟨h.1, by rw [R.le]; exact h.2⟩
      rw [if_pos h, if_pos h']
      exact .inr ⟨na i h.1, .inl fun t => by simp⟩
    · have h' : ¬ (i ∈ vs ∧ i < env.length) := by rw [R.le]; exact h
      rw [if_neg h, if_neg h']
      exact .inl ⟨rfl, rfl⟩
/-- back in the outer block: its names stand as they stood -/
theorem SR.unwipe {F0 H0 : Hp} {env0 env2 : Env} {vs : List Nat} {tm0 : List Ent} (R0 : SR A kd F0 H0 env0 σ tm0) (R : SR A kd F H (wipeE vs env2) (L2.wipe σ vs) tm) (s : Same F0 F) (hk : ∀ i ∈ vs, kd[i]? = some (.own 0)) (na : ∀ i ∈ vs, ∀ e ∈ tm, e.k ≠ .al i) :
    SR A kd F H (restore env0 vs (wipeE vs env2)) σ tm := by
  have l1 : (wipeE vs env2).length = σ.length := by rw [R.le, wipe_length]
  refine R.restate (σ' := σ) restore_len (wipe_length σ vs).symm R0.iov fun i => ?_
  rw [restore_get, wipe_get, l1]
  by_cases h : i ∈ vs ∧ i < σ.length
  · rw [if_pos h, if_pos h]
    refine .inr ⟨na i h.1, ?_⟩
    cases e : (env0[i]?).join with
    | none => exact .inl fun t z => by cases z
    | some t =>
      obtain ⟨k, v, h1, h2, h3, _⟩ := R0.slot (i := i) (t := t) e
      rw [hk i h.1] at h1
      cases h1
      exact .inr ⟨t, v, rfl, h2, hk i h.1, (R0.lay.rep h3).mono s⟩
  · rw [if_neg h, if_neg h]
    exact .inl ⟨rfl, rfl⟩
/-- the last entry is bound to a name -/
theorem SR.bindN {d i : Nat} {t : T} {v : V} (R : SR A kd F H env σ (tm ++ [⟨.own d, t, v⟩])) (hi : i < σ.length) (na : ∀ e ∈ tm, e.k ≠ .al i) (nio : ∀ e, kd[i]? ≠ some (.io e)) : SR A (kd.set i (.own d)) F H (env.set i (some t)) (σ.set i (some v)) tm := by
  have hl : i < (slotsOf kd env σ).length := by rw [R.slen]; exact hi
  have L := R.lay1.bind (R.pops.noAl na) (i := i) (fun _ z => by cases z)
  rw [List.set_append_left _ _ hl, ← slotsOf_set] at L
  refine ⟨by rw [List.length_set, List.length_set]; exact R.le, by rw [List.length_set, List.length_set]; exact R.lk, fun k hk => ?_, fun j t' hj => ?_, L, R.gr, fun e he j k => by rw [List.length_set]; exact R.als e (List.mem_append_left _ he) j k, fun j e v' hj => ?_⟩
  · rcases List.mem_or_eq_of_mem_set hk with h | h
    · exact R.nal k h
    · rw [h]; rfl
  · rcases getS hj with ⟨rfl, _, _⟩ | ⟨hne, h4⟩
    · exact ⟨v, by rw [List.getElem?_set_self hi]⟩
    · obtain ⟨w, hw⟩ := R.bnd j t' h4
      exact ⟨w, getS_ne hne hw⟩
  · obtain ⟨h1, h2⟩ := R.iov j e v' hj
    have hne : j ≠ i := fun z => nio e (z ▸ h2)
    exact ⟨getS_ne hne h1, getS_ne hne h2⟩
end
end Pv
end

section
set_option Elab.async false
set_option linter.all false
set_option maxRecDepth 100000
/-! PvN: targets; list comprehensions of one clause. -/
namespace Pv
open PySem PySem.Spec PyProof.Rows L2

def kdL (kd : List Kd) (l : List Nat) : List Kd := l.foldl (fun k i => k.set i (.own 0)) kd
def kdP (kd : List Kd) (d : Nat) : Pat → List Kd
  | .nm i => kd.set i (.own d)
  | .tup l => kdL kd l
  | .star a s b => kdL ((kdL kd a).set s (.own 0)) b
def isIo : Kd → Bool
  | .io _ => true
  | _ => false
/-- names that may be bound -/
def okSl (kd : List Kd) (l : List Nat) : Bool := l.all fun i => match kd[i]? with | some k => !isIo k | none => false
theorem okSl_of {kd : List Kd} {l : List Nat} (h : okSl kd l = true) {i : Nat} (hi : i ∈ l) : i < kd.length ∧ ∀ e, kd[i]? ≠ some (.io e) := by
  unfold okSl at h
  have h1 := List.all_eq_true.mp h i hi
  cases e : kd[i]? with
  | none => rw [e] at h1; cases h1
  | some k =>
    rw [e] at h1
    refine ⟨lt_of_get e, fun d z => ?_⟩
    cases z
    cases h1
def gNames : List Nat → TGs
  | [] => gNil
  | i :: l => gCons (gName i) (gNames l)
section
variable {A : Act} {kd : List Kd} {F H : Hp} {env env' : Env} {σ : L2.St} {tm : List Ent}
theorem names_ok : ∀ {l : List Nat} {ts : List T} {vs : List V} {kd : List Kd} {env : Env} {σ : L2.St} {Q : L2.St → Hp → Prop}, SR A kd F H env σ tm → Reps A.K F ts vs → setAll l ts env = some env' →
    (∀ i ∈ l, i < σ.length ∧ (∀ e, kd[i]? ≠ some (.io e)) ∧ ∀ e ∈ tm, e.k ≠ .al i) →
    (∀ σ', SR A (kdL kd l) F H env' σ' tm → σ'.length = σ.length → (∀ i, i ∉ l → σ'[i]? = σ[i]?) → Q σ' H) → gNames l vs σ H Q
  | [], [], _, _, _, _, _, R, .nil, e, _, q => by
    cases e
    exact ⟨rfl, q _ R rfl fun _ _ => rfl⟩
  | [], _ :: _, _, _, _, _, _, _, _, e, _, _ => by cases e
  | _ :: _, [], _, _, _, _, _, _, _, e, _, _ => by cases e
  | i :: l, t :: ts, _, kd, env, σ, Q, R, .cons (x := x) (xs := xs) r rs, e, h, q => by
    have e : setAll l ts (env.set i (some t)) = some env' := e
    obtain ⟨h1, h2, h3⟩ := h i List.mem_cons_self
    have R1 := (R.pushes (fun _ h => .inl h) (R.lay.pushV r)).bindN h1 h3 h2
    refine ⟨x, xs, rfl, names_ok R1 rs e (fun j hj => ?_) fun σ' R2 l2 o2 => ?_⟩
    · obtain ⟨a1, a2, a3⟩ := h j (List.mem_cons_of_mem _ hj)
      refine ⟨by rw [List.length_set]; exact a1, fun e z => ?_, a3⟩
      rcases getS z with ⟨_, _, z⟩ | ⟨_, z⟩
      · cases z
      · exact a2 e z
    · refine q σ' R2 (by rw [l2, List.length_set]) fun j hj => ?_
      rw [o2 j fun z => hj (List.mem_cons_of_mem _ z)]
      exact List.getElem?_set_ne fun z : i = j => hj (by rw [← z]; exact List.mem_cons_self)
end
section
variable {A : Act} {kd : List Kd} {X : Cx}
/-- a target -/
def gT (A : Act) (kd : List Kd) (d : Nat) (p : Pat) : TG := fun v σ H Q => ∃ F env tm t env', SR A kd F H env σ (tm ++ [⟨.own d, t, v⟩]) ∧ (∀ i ∈ p.slots, ∀ e ∈ tm, e.k ≠ .al i) ∧ bindP p t env = some env' ∧
  ∀ σ' F' H', SR A (kdP kd d p) F' H' env' σ' tm → Same F F' → σ'.length = σ.length → (∀ i, i ∉ p.slots → σ'[i]? = σ[i]?) → Q σ' H'
theorem PG.imp {e : Expr} {t t' : TG} (h : PG X e t) (i : ∀ v σ H Q, t' v σ H Q → t v σ H Q) : PG X e t' := ⟨fun pins s σ H v u Q I r q => h.run pins s σ H v u Q I r (i v σ H Q q)⟩
theorem g_nm {d i : Nat} {e : Expr} (h : PG X e (gName i)) (ok : okSl kd [i] = true) : PG X e (gT A kd d (.nm i)) := PG.imp h fun v σ H Q ⟨F, env, tm, t, env', R, na, hb, q⟩ => by
  have hb : some (env.set i (some t)) = some env' := hb
  cases hb
  obtain ⟨h1, h2⟩ := okSl_of ok (i := i) (by simp)
  refine q _ F H (R.bindN (by rw [← R.lk]; exact h1) (na i (by simp [Pat.slots])) h2) (Same.refl F) (by rw [List.length_set]) fun j hj => List.getElem?_set_ne fun z => hj (by simp [Pat.slots, z])
theorem setAll_len : ∀ {l : List Nat} {ts : List T} {env env' : Env}, setAll l ts env = some env' → ts.length = l.length
  | [], [], _, _, _ => rfl
  | [], _ :: _, _, _, h => by cases h
  | _ :: _, [], _, _, h => by cases h
  | i :: l, t :: ts, env, env', h => congrArg (· + 1) (setAll_len (show setAll l ts (env.set i (some t)) = some env' from h))
theorem g_tup {l : List Nat} {n : Nat} {e : Expr} (hK : A.K = X.K) (h : PG X e (gTup X.K n (gNames l))) (hn : n = l.length) (ok : okSl kd l = true) : PG X e (gT A kd 0 (.tup l)) := PG.imp h fun v σ H Q ⟨F, env, tm, t, env', R, na, hb, q⟩ => by
  cases t with
  | tup ts =>
    have hb : setAll l ts env = some env' := hb
    have r := R.rep (t := .tup ts) (v := v) last_get
    cases r with | @tup _ a xs h1 h2 =>
    refine ⟨a, xs, rfl, by rw [← hK]; exact Same.seqT R.lay.fh h1, ?_, ?_⟩
    · rw [← h2.length, hn, setAll_len hb]
    · refine names_ok R.pops h2 hb (fun i hi => ?_) fun σ' R' l' o' => q σ' F H R' (Same.refl F) l' o'
      obtain ⟨a1, a2⟩ := okSl_of ok hi
      exact ⟨by rw [← R.lk]; exact a1, a2, na i hi⟩
  | _ => cases hb

/-! ### the tests of a clause -/
def tCs (A : Act) (kd : List Kd) (cs : List Ir) : TT := fun σ H Q => ∃ F env tm b env', SR A kd F H env σ tm ∧ NoTs A cs tm ∧ evC A.C cs env = some (b, env') ∧ ∀ F' H', SR A kd F' H' env' σ tm → Same F F' → Q b H'
theorem PTs.imp {e : List Expr} {t t' : TT} (h : PTs X e t) (i : ∀ σ H Q, t' σ H Q → t σ H Q) : PTs X e t' := ⟨fun pins s σ H Q I q => h.run pins s σ H Q I (i σ H Q q)⟩
theorem c_nil : PTs X [] (tCs A kd []) := PTs.imp pts_nil fun σ H Q ⟨F, env, tm, b, env', R, n, ev, q⟩ => by
  have ev : some (true, env) = some (b, env') := ev
  cases ev
  exact q F H R (Same.refl F)
theorem evC_one {C : Cal} {c : Ir} {env env' : Env} {b : Bool} (h : evC C [c] env = some (b, env')) : ∃ t, evE C c env = some (t, env') ∧ b = truth t := by
  unfold evC at h
  obtain ⟨⟨x, e1⟩, h1, h⟩ := bind_some h
  have h : (if truth x = true then evC C [] e1 else some (false, e1)) = some (b, env') := h
  by_cases hx : truth x = true
  · rw [if_pos hx] at h
    have h : some (true, e1) = some (b, env') := h
    cases h
    exact ⟨x, h1, hx.symm⟩
  · rw [if_neg hx] at h
    have hx' : truth x = false := by simpa using hx
    cases h
    exact ⟨x, h1, hx'.symm⟩
theorem c_one {c : Ir} {e : Expr} (h : PT X e (tT A kd c)) : PTs X [e] (tCs A kd [c]) := PTs.imp (pts_one h) fun σ H Q ⟨F, env, tm, b, env', R, n, ev, q⟩ => by
  obtain ⟨t, h1, rfl⟩ := evC_one ev
  exact ⟨F, env, tm, t, env', R, NoT.of n, h1, q⟩

/-! ### the new list of a comprehension -/
theorem Lay.reent {K : PySem.W.Frag} {G F H : Hp} {es : List Ent} {e e' : Ent} (L : Lay K G F H (es ++ [e])) (h : ∀ al, EntR K G F H e.k e.t e.v al → EntR K G F H e'.k e'.t e'.v al) (hk : ∀ i, e'.k ≠ .al i) : Lay K G F H (es ++ [e']) := by
  obtain ⟨c, q⟩ := L.col
  refine ⟨L.fh, L.gh, ⟨c, fun j f hj => ?_⟩, fun j i t v hj => ?_⟩
  · rcases getC hj with ⟨hl, h1⟩ | ⟨rfl, rfl⟩
    · exact q j f (getL e h1)
    · obtain ⟨al, r, nd, hc⟩ := q es.length e (by simp)
      exact ⟨al, h al r, nd, hc⟩
  · rcases getC hj with ⟨hl, h1⟩ | ⟨rfl, h1⟩
    · obtain ⟨hij, k, h2, h3⟩ := L.ali j i t v (getL e h1)
      have : i < es.length := Nat.lt_trans hij hl
      rw [List.getElem?_append_left this] at h2
      exact ⟨hij, k, getL _ h2, h3⟩
    · exact absurd (congrArg Ent.k h1).symm (hk i)
theorem SR.newD {F H : Hp} {env : Env} {σ : L2.St} {tm : List Ent} {D : Addr} (d : Nat) (R : SR A kd F H env σ tm) (hD : H D = none) : SR A kd F (upd H D (.lst [])) env σ (tm ++ [⟨.own (d + 1), .lst [], .ref D⟩]) := by
  have L := R.lay.pushL (ts := []) (xs := []) hD .nil
  refine R.pushes (fun _ h => .inl h) (L.reent (e' := ⟨.own (d + 1), .lst [], .ref D⟩) (fun al h => ?_) fun _ z => by cases z)
  have h : OwnR A.K F (upd H D (.lst [])) 1 (.lst []) (.ref D) al := h
  obtain ⟨a, xs, rfl', e1, e2, h1, h2, rfl⟩ := h.lstv
  refine ⟨a, xs, rfl', e1, e2, h1, ?_, rfl⟩
  cases xs with
  | nil => exact h2
  | cons _ _ => exact h2.elim
/-- an item is appended to the list of the entry ahead of it -/
theorem SR.appD {F H : Hp} {env : Env} {σ : L2.St} {tm : List Ent} {D : V} {d : Nat} {ts : List T} {u : T} {w : V} (R : SR A kd F H env σ (tm ++ [⟨.own (d + 1), .lst ts, D⟩] ++ [⟨.own d, u, w⟩])) (na : ∀ e ∈ tm, ∀ i, e.k = .al i → i < σ.length) :
    ∃ a xs, D = .ref a ∧ H a = some (.lst xs) ∧ xs.length = ts.length ∧ SR A kd F (upd H a (.lst (xs ++ [w]))) env σ (tm ++ [⟨.own (d + 1), .lst (ts ++ [u]), D⟩]) := by
  have L : Lay A.K A.G F H (((slotsOf kd env σ ++ tm) ++ [⟨.own (d + 1), .lst ts, D⟩]) ++ [⟨.own d, u, w⟩]) := by
    have := R.lay
    simpa using this
  have hg : ((slotsOf kd env σ ++ tm) ++ [(⟨.own (d + 1), .lst ts, D⟩ : Ent)])[(slotsOf kd env σ ++ tm).length]? = some ⟨.own (d + 1), .lst ts, D⟩ := last_get
  have noal : NoAl ((slotsOf kd env σ ++ tm) ++ [(⟨.own (d + 1), .lst ts, D⟩ : Ent)]) (slotsOf kd env σ ++ tm).length := fun j t v hj => by
    obtain ⟨hij, _⟩ := L.pop.ali j _ t v hj
    have := lt_of_get hj
    simp at this hij
    omega
  obtain ⟨al, bl, g2, g3, g4, g5, g6⟩ := L.absorb (d := d + 1) hg (.inl rfl) noal
  obtain ⟨a, xs, r, rfl, h5, h6, h7, rfl⟩ := g2.lstv
  obtain ⟨m1, m2, m3, m4, m5⟩ := nodup_sub3 g4
  have up : ∀ b, b ≠ a → upd H a (.lst (xs ++ [w])) b = H b := fun b hb => upd_ne hb
  have L2 := g6 (upd H a (.lst (xs ++ [w]))) (.lst (ts ++ [u])) (a :: (r ++ bl)) ⟨a, xs ++ [w], r ++ bl, rfl, upd_same, h6, OwnL.snoc (g3.mono (Same.refl F) d fun b hb => ⟨up b fun z => m2 (z ▸ hb), (g5 b (List.mem_append_right _ hb)).2.1⟩)
      (OwnL.mono h7 fun t v al hs q => q.mono (Same.refl F) d fun b hb => ⟨up b fun z => m1 (z ▸ hs b hb), (g5 b (List.mem_append_left _ (List.mem_cons_of_mem _ (hs b hb)))).2.1⟩), rfl⟩
    (by
      rw [List.nodup_cons, List.nodup_append]
      exact ⟨fun z => (List.mem_append.mp z).elim m1 m2, m3, m4, fun x hx y hy e => m5 x hx (e ▸ hy)⟩)
    (fun b hb => by simpa using hb)
    (fun b hb => up b fun z => hb (by rw [z]; simp))
  refine ⟨a, xs, rfl, h5, (OwnL.length h7).symm, R.le, R.lk, R.nal, R.bnd, ?_, R.gr, fun e he i z => ?_, R.iov⟩
  · rw [List.set_append_right _ _ (Nat.le_refl _), Nat.sub_self] at L2
    simpa using L2
  · rcases List.mem_append.mp he with he | he
    · exact na e he i z
    · have : e = ⟨.own (d + 1), .lst (ts ++ [u]), .ref a⟩ := by simpa using he
      subst this
      cases z

/-! ### [e for p in it if cs] -/
theorem evE_lc {C : Cal} {p : Pat} {it : Wk} {cs : List Ir} {e : Ir} {env env' : Env} {t : T} (h : evE C (.lc p it cs [] e) env = some (t, env')) :
    ∃ l env1 xs env2, evI C it env = some (l, env1) ∧ walkC p.slots p (fun env => evC C cs env) (fun env => evG C [] (fun env => evE C e env) env) l env1 = some (xs, env2) ∧ okLen xs.length = true ∧ t = .lst xs ∧ env' = restore env1 p.slots (wipeE p.slots env2) := by
  unfold evE at h
  obtain ⟨⟨l, env1⟩, h1, h⟩ := bind_some h
  obtain ⟨⟨xs, env2⟩, h2, h⟩ := bind_some h
  have e0 : p.slots ++ Cl.slots [] = p.slots := List.append_nil _
  have h : (if okLen xs.length = true then some (T.lst xs, restore env1 (p.slots ++ Cl.slots []) (wipeE (p.slots ++ Cl.slots []) env2)) else none) = some (t, env') := h
  rw [e0] at h
  have h2 : walkC (p.slots ++ Cl.slots []) p (fun env => evC C cs env) (fun env => evG C [] (fun env => evE C e env) env) l env1 = some (xs, env2) := h2
  rw [e0] at h2
  by_cases hl : okLen xs.length = true
  · rw [if_pos hl] at h
    cases h
    exact ⟨l, env1, xs, env2, h1, h2, hl, rfl, rfl⟩
  · rw [if_neg hl] at h; cases h
theorem walkC_cons {vs : List Nat} {p : Pat} {c : Env → Option (Bool × Env)} {f : Env → Option (List T × Env)} {t : T} {l : List T} {env env' : Env} {r : List T} (h : walkC vs p c f (t :: l) env = some (r, env')) :
    ∃ e1 ok e2, bindP p t (wipeE vs env) = some e1 ∧ c e1 = some (ok, e2) ∧ ((ok = true ∧ ∃ xs e3 ys, f e2 = some (xs, e3) ∧ walkC vs p c f l e3 = some (ys, env') ∧ r = xs ++ ys) ∨ (ok = false ∧ walkC vs p c f l e2 = some (r, env'))) := by
  unfold walkC at h
  obtain ⟨e1, h1, h⟩ := bind_some h
  obtain ⟨⟨ok, e2⟩, h2, h⟩ := bind_some h
  refine ⟨e1, ok, e2, h1, h2, ?_⟩
  have h : (if ok = true then (do let (xs, env) ← f e2; let (ys, env) ← walkC vs p c f l env; some (xs ++ ys, env)) else walkC vs p c f l e2) = some (r, env') := h
  by_cases ho : ok = true
  · rw [if_pos ho] at h
    obtain ⟨⟨xs, e3⟩, h3, h⟩ := bind_some h
    obtain ⟨⟨ys, e4⟩, h4, h⟩ := bind_some h
    cases h
    exact .inl ⟨ho, xs, e3, ys, h3, h4, rfl⟩
  · rw [if_neg ho] at h
    exact .inr ⟨by simpa using ho, h⟩
theorem evG_nil {C : Cal} {e : Ir} {env env' : Env} {xs : List T} (h : evG C [] (fun env => evE C e env) env = some (xs, env')) : ∃ x, evE C e env = some (x, env') ∧ xs = [x] := by
  unfold evG at h
  obtain ⟨⟨x, e1⟩, h1, h⟩ := bind_some h
  cases h
  exact ⟨x, h1, rfl⟩
theorem kdL_own {l : List Nat} : ∀ {kd : List Kd}, (∀ i ∈ l, kd[i]? = some (.own 0)) → kdL kd l = kd := by
  induction l with
  | nil => intro kd _; rfl
  | cons i l ih =>
    intro kd h
    show kdL (kd.set i (.own 0)) l = kd
    rw [set_same (h i List.mem_cons_self)]
    exact ih fun j hj => h j (List.mem_cons_of_mem _ hj)
/-- a pattern whose names hold values -/
def Pat.plain : Pat → Bool
  | .star _ _ _ => false
  | _ => true
theorem kdP_own {p : Pat} (hp : p.plain = true) (h : ∀ i ∈ p.slots, kd[i]? = some (.own 0)) : kdP kd 0 p = kd := by
  cases p with
  | nm i => exact set_same (h i (by simp [Pat.slots]))
  | tup l => exact kdL_own h
  | star _ _ _ => cases hp
theorem lc_imp {d : Nat} {p : Pat} {it : Wk} {cs : List Ir} {e : Ir} (hp : p.plain = true) (hk : ∀ i ∈ p.slots, kd[i]? = some (.own 0)) :
    ∀ σ H Q, tF A kd (d + 1) (.lc p it cs [] e) σ H Q → tLc (tI A kd it) (gT A kd 0 p) (tCs A kd cs) (tF A kd d e) p.slots σ H Q := fun σ H Q ⟨F, env, tm, t, env', R, n, ev, q⟩ => by
  obtain ⟨l, env1, xs, env2, h1, h2, hl, rfl, rfl⟩ := evE_lc ev
  have n0 : ∀ x ∈ tm, ∀ i, x.k = .al i → ((p.slots ++ Cl.slots []).contains i || tchI A.io i it || tchEs A.io i cs || tchG A.io i [] || tchE A.io i e) = false := n
  have e0 : p.slots ++ Cl.slots [] = p.slots := List.append_nil _
  rw [e0] at n0
  have n1 : ∀ x ∈ tm, ∀ i, x.k = .al i → p.slots.contains i = false ∧ tchI A.io i it = false ∧ tchEs A.io i cs = false ∧ tchE A.io i e = false := fun x hx i z => by
    have := n0 x hx i z
    simp only [Bool.or_eq_false_iff] at this
    exact ⟨this.1.1.1.1, this.1.1.1.2, this.1.1.2, this.2⟩
  have nvs : ∀ i ∈ p.slots, ∀ x ∈ tm, x.k ≠ .al i := fun i hi x hx z => by
    have := (n1 x hx i z).1
    rw [List.contains_iff_mem.mpr hi] at this
    cases this
  have nD : ∀ {D : V} {ts : List T} {i : Nat}, i ∈ p.slots → ∀ x ∈ tm ++ [(⟨.own (d + 1), .lst ts, D⟩ : Ent)], x.k ≠ .al i := fun {D ts i} hi x hx z => by
    rcases List.mem_append.mp hx with hx | hx
    · exact nvs i hi x hx z
    · have : x = ⟨.own (d + 1), .lst ts, D⟩ := by simpa using hx
      subst this
      cases z
  refine ⟨F, env, tm, l, env1, R, fun x hx i z => (n1 x hx i z).2.1, h1, fun J F1 H1 R1 s1 wk D hD => ?_⟩
  refine ⟨fun i m H => i + m = l.length ∧ ∃ F2 env3 acc rest, Same F1 F2 ∧ SR A kd F2 H (wipeE p.slots env3) (L2.wipe σ p.slots) (tm ++ [⟨.own (d + 1), .lst acc, .ref D⟩]) ∧
      walkC p.slots p (fun env => evC A.C cs env) (fun env => evG A.C [] (fun env => evE A.C e env) env) (l.drop i) env3 = some (rest, env2) ∧ acc ++ rest = xs, ⟨l.length, by omega, F1, env1, [], xs, Same.refl F1, ?_, h2, rfl⟩, fun i m H hW => ?_⟩
  · exact (R1.newD d hD).wipe hk fun i hi => nD hi
  · obtain ⟨em, F2, env3, acc, rest, s2, R2, h3, ex⟩ := hW
    obtain ⟨w1, w2⟩ := wk F2 H s2 R2.lay.fh R2.lay.gh
    by_cases hi : i < l.length
    · obtain ⟨w3, w4⟩ := w2 i l[i] (List.getElem?_eq_getElem hi)
      rw [List.drop_eq_getElem_cons hi] at h3
      obtain ⟨e1, ok, e2, g1, g2, g3⟩ := walkC_cons h3
      refine .inr ⟨w3, fun H' => (i + 1) + (m - 1) = l.length ∧ ∃ F2 env3 acc rest, Same F1 F2 ∧ SR A kd F2 H' (wipeE p.slots env3) (L2.wipe σ p.slots) (tm ++ [⟨.own (d + 1), .lst acc, .ref D⟩]) ∧
        walkC p.slots p (fun env => evC A.C cs env) (fun env => evG A.C [] (fun env => evE A.C e env) env) (l.drop (i + 1)) env3 = some (rest, env2) ∧ acc ++ rest = xs, fun H' w => ⟨m - 1, by omega, w⟩, fun x H' hy => ?_⟩
      obtain ⟨F3, R3, s3⟩ := R2.fin0 (w4 x H' hy)
      refine ⟨F3, _, _, l[i], e1, R3, fun i hi => nD hi, g1, fun σ2 F3' H3' R4 s3' l4 o4 => ?_⟩
      have s3 := s3.trans s3'
      rw [kdP_own hp hk] at R4
      have ew : L2.wipe σ2 p.slots = L2.wipe σ p.slots := by
        apply List.ext_getElem?
        intro j
        rw [wipe_get, wipe_get, l4, wipe_length]
        by_cases hj : j ∈ p.slots ∧ j < σ.length
        · rw [if_pos hj, if_pos hj]
        · rw [if_neg hj, if_neg hj]
          by_cases hj2 : j ∈ p.slots
          · have : ¬ j < σ.length := fun z => hj ⟨hj2, z⟩
            rw [List.getElem?_eq_none (by rw [l4, wipe_length]; omega), List.getElem?_eq_none (by omega)]
          · rw [o4 j hj2, wipe_get, if_neg hj]
      have nc : NoTs A cs (tm ++ [⟨.own (d + 1), .lst acc, .ref D⟩]) := fun x hx j z => by
        rcases List.mem_append.mp hx with hx | hx
        · exact (n1 x hx j z).2.2.1
        · have : x = ⟨.own (d + 1), .lst acc, .ref D⟩ := by simpa using hx
          subst this
          cases z
      have ne : NoT A e (tm ++ [⟨.own (d + 1), .lst acc, .ref D⟩]) := fun x hx j z => by
        rcases List.mem_append.mp hx with hx | hx
        · exact (n1 x hx j z).2.2.2
        · have : x = ⟨.own (d + 1), .lst acc, .ref D⟩ := by simpa using hx
          subst this
          cases z
      refine ⟨ew, F3', e1, _, ok, e2, R4, nc, g2, fun F4 H4 R5 s5 => ?_⟩
      rcases g3 with ⟨rfl, ys, e3, zs, g4, g5, g6⟩ | ⟨rfl, g5⟩
      · rw [if_pos rfl]
        obtain ⟨y, g7, rfl⟩ := evG_nil g4
        refine ⟨F4, e2, _, y, e3, R5, ne, g7, fun w F5 H5 R6 s6 => ?_⟩
        obtain ⟨a, vs', eD, q1, q2, R7⟩ := R6.appD fun x hx j z => by
          have := R1.als x hx j z
          rwa [l4, wipe_length]
        cases eD
        refine ⟨vs', q1, ?_, by omega, F5, e3, acc ++ [y], zs, (((s2.trans s3).trans s5).trans s6), ?_, g5, ?_⟩
        · have h8 := okLen_line hl
          rw [← ex, g6] at h8
          simp at h8
          omega
        · rw [← ew]
          exact R7.wipe hk fun i hi => nD hi
        · rw [← ex, g6]; simp
      · rw [if_neg Bool.false_ne_true]
        refine ⟨by omega, F4, e2, acc, rest, ((s2.trans s3).trans s5), ?_, g5, ex⟩
        rw [← ew]
        exact R5.wipe hk fun i hi => nD hi
    · refine .inl ⟨w1 i (by omega), ?_⟩
      rw [List.drop_eq_nil_of_le (by omega)] at h3
      have h3 : some (([] : List T), env3) = some (rest, env2) := h3
      cases h3
      rw [List.append_nil] at ex
      subst ex
      exact q (.ref D) F2 H (R1.unwipe R2 s2 hk fun i hi => nD hi) (s1.trans s2)
end
end Pv
end

section
set_option Elab.async false
set_option linter.all false
set_option maxRecDepth 100000
/-! PvStar: a, *b, c = a tuple. -/
namespace Pv
open PySem PySem.Spec PyProof.Rows L2

section
variable {X : Cx}
/-- the values of a starred unpacking of a tuple: the middle ones in a new list -/
theorem unpack_star {pins : List (Addr × Obj)} {σ : L2.St} {H : Hp} {s : Shared} {l : Addr} {xs : List V} {n i : Nat} {Q : List Value → Shared → Prop} (hc : X.calm = true) (I : Inv X pins σ H s) (hq : SqT X.K H l xs) (hi : i < n) (hn : n ≤ xs.length + 1)
    (h : ∀ D us s', H D = none → Inv X pins σ (upd H D (.lst ((xs.drop i).take (xs.length + 1 - n)))) s' → Vals (xs.take i ++ [.ref D] ++ (xs.drop i).drop (xs.length + 1 - n)) us → Q us s') :
    wpAny (model X.prog X.w) X.A (unpackItems (.ref l) n (some i)) Q X.xe s := by
  obtain ⟨its, r, ht, hz⟩ := I.tuple hq
  have hlen := r.length
  have hsz : its.toArray.size = its.length := List.size_toArray
  have hne : l ≠ s.heap.objs.size := by obtain ⟨o, ho, _⟩ := ht; exact Nat.ne_of_lt (Heap.lt_size ho)
  unfold unpackItems notIterableAtAll
  refine wpAny_bind (wpAny_bind (wpAny_specialOf ht.typeIs slot_tuple_iter.lookup (wpAny_pure ?_)))
  simp only [Bool.false_eq_true, if_false]
  refine wpAny_bind (wpAny_holding (iter_tuple ht (wpAny_bind (wpAny_holding (draw_tuple hne i 0 _ _ ⟨_, Heap.get?_push_size _ rfl, rfl, rfl⟩ (ht.push _) (by rw [hsz]; omega) fun h1 hit hs1 => ?_)))))
  have ht1 : IsTup h1 l its.toArray := (ht.push _).extBut hs1.extBut hne
  rw [Nat.zero_add] at hit
  obtain ⟨oi, hoi, hoi2⟩ := hit
  obtain ⟨ol, hol, hol2⟩ := ht1
  have hfl : ((its.toArray.toList.drop 0).take i).length = i := by
    rw [List.drop_zero, List.length_take]
    show min i its.length = i
    omega
  rw [if_neg (show ¬ (((its.toArray.toList.drop 0).take i).length < i) by rw [hfl]; omega)]
  refine wpAny_bind (wpAny_holding (PySem.W.kun_collect (s := { s with heap := h1 }) (T := "tuple_iterator") (.inr (.inr (.inr rfl))) (Walks.tuple (A := X.A.in1) (I.ok.hd hc) s.heap.objs.size l hne its.toArray) (fun j u st => st.1.typeIs) (k := i) (by rw [hsz]; omega) ⟨⟨oi, hoi, hoi2⟩, ⟨ol, hol, hol2⟩⟩ (Heap.lt_size hoi) (Heap.lt_size hol) (fun h2 tk hk => ?_) (by rw [hsz, ← hlen]; exact hz)))
  have hrl : (its.toArray.toList.drop i).length = its.length - i := by
    rw [List.length_drop]
  rw [if_neg (by rw [hrl]; omega)]
  have hm : (its.toArray.toList.drop i).length - (n - 1 - i) = its.length + 1 - n := by rw [hrl]; omega
  have ke : ∀ b o, s.heap.get? b = some o → h2.get? b = some o := fun b o e => by
    have hb : b ≠ s.heap.objs.size := Nat.ne_of_lt (Heap.lt_size e)
    exact hk b o hb (hs1.extBut b o hb (Heap.get?_push_of_some _ e))
  have I2 : Inv X pins σ H { s with heap := h2, toks := tk } := I.kept (t' := tk) ke
  have rm : Vals ((xs.drop i).take (xs.length + 1 - n)) ((its.drop i).take (its.length + 1 - n)) := by
    rw [hlen]
    exact (r.drop i).take _
  refine wpAny_bind (wpAny_newList ?_ (by
    show ((its.toArray.toList.drop i).take ((its.toArray.toList.drop i).length - (n - 1 - i))).length ≤ sizeLine
    rw [List.length_take, hrl]
    omega))
  rw [hm]
  have I3 := I2.lnew (t' := tk) rm (by rw [List.length_take, List.length_drop]; omega)
  refine wpAny_pure (h _ _ _ I2.fresh I3 ?_)
  refine Vals.append (Vals.append (r.take i) (.cons rfl .nil)) ?_
  rw [hlen]
  exact (r.drop i).drop _
def gStar (K : PySem.W.Frag) (n i : Nat) (t : TGs) : TG := fun v σ H Q => ∃ a xs, v = .ref a ∧ SqT K H a xs ∧ n ≤ xs.length + 1 ∧ ∀ D, H D = none → t (xs.take i ++ [.ref D] ++ (xs.drop i).drop (xs.length + 1 - n)) σ (upd H D (.lst ((xs.drop i).take (xs.length + 1 - n)))) Q
theorem pg_star {es : List Expr} {k n i : Nat} {pos : Pos} {t : TGs} (hc : X.calm = true) (h : PGs X es t) (hn : (assignEach es X.env).length = n) (hst : (assignEach es X.env).findIdx? (·.1) = some i) (hi : i < n) : PG X (.Tuple es k pos) (gStar X.K n i t) := by
  refine ⟨fun pins s σ H v u Q I r hw => ?_⟩
  obtain ⟨a, xs, rfl, hq, hl, hw⟩ := hw
  cases r
  rw [assign_Tuple]
  refine wpAny_bind (wpAny_standAt ?_)
  unfold unpack
  rw [hn, hst]
  exact wpAny_bind (wpAny_holding (unpack_star hc I hq hi hl fun D us s' hD I' rv => h.run pins s' σ _ _ us Q I' rv (hw D hD)))
theorem pgs_star {e : Expr} {p : Pos} {es : List Expr} {t : TG} {u : TGs} (h1 : PG X e t) (h2 : PGs X es u) : PGs X (.Starred e p :: es) (gCons t u) := by
  refine ⟨fun pins s σ H vs us Q I r hw => ?_⟩
  obtain ⟨v, vr, rfl, hw⟩ := hw
  cases r with
  | cons r rr =>
    exact assignInOrder_cons (thn (h1.run pins s σ H _ _ _ I r hw) fun _ s1 ⟨σ1, H1, I1, q1⟩ => h2.run pins s1 σ1 H1 _ _ Q I1 rr q1)
end
theorem setAll_app : ∀ {a b : List Nat} {ts us : List T} {env : Env}, ts.length = a.length → setAll (a ++ b) (ts ++ us) env = (setAll a ts env).bind (setAll b us)
  | [], b, [], us, env, _ => rfl
  | i :: a, b, t :: ts, us, env, h => by
    show setAll (a ++ b) (ts ++ us) (env.set i (some t)) = (setAll a ts (env.set i (some t))).bind (setAll b us)
    exact setAll_app (by simpa using h)
  | [], _, _ :: _, _, _, h => by simp at h
  | _ :: _, _, [], _, _, h => by simp at h
section
variable {A : Act} {kd : List Kd} {X : Cx}
theorem g_star {a : List Nat} {s : Nat} {b : List Nat} {e : Expr} (hK : A.K = X.K) (h : PG X e (gStar X.K (a.length + b.length + 1) a.length (gNames (a ++ s :: b)))) (ok : okSl kd (a ++ s :: b) = true) : PG X e (gT A kd 0 (.star a s b)) := PG.imp h fun v σ H Q ⟨F, env, tm, t, env', R, na, hb, q⟩ => by
  cases t with
  | tup ts =>
    have hb : (if a.length + b.length ≤ ts.length then
      (setAll a (ts.take a.length) env).bind fun env => setAll b (ts.drop (ts.length - b.length)) (env.set s (some (.lst ((ts.take (ts.length - b.length)).drop a.length)))) else none) = some env' := hb
    by_cases hl : a.length + b.length ≤ ts.length
    · rw [if_pos hl] at hb
      have r := R.rep (t := .tup ts) (v := v) last_get
      cases r with | @tup _ p xs h1 h2 =>
      have hlen := h2.length
      refine ⟨p, xs, rfl, by rw [← hK]; exact Same.seqT R.lay.fh h1, by omega, fun D hD => ?_⟩
      have rm : Reps A.K F ((ts.take (ts.length - b.length)).drop a.length) ((xs.drop a.length).take (xs.length + 1 - (a.length + b.length + 1))) := by
        have := (h2.take (ts.length - b.length)).drop a.length
        rw [List.drop_take] at this
        rw [List.drop_take]
        have e1 : xs.length + 1 - (a.length + b.length + 1) = ts.length - b.length - a.length := by omega
        rw [e1]
        have := (h2.drop a.length).take (ts.length - b.length - a.length)
        exact this
      obtain ⟨F2, R2, s2⟩ := R.pops.fin0 (z := .lst ((ts.take (ts.length - b.length)).drop a.length)) (v := .ref D) (.inl (.inr (.inl ⟨D, _, _, rfl, rfl, hD, rfl, rm⟩)))
      have r2 := R2.rep (t := .lst ((ts.take (ts.length - b.length)).drop a.length)) (v := .ref D) last_get
      have e3 : (xs.drop a.length).drop (xs.length + 1 - (a.length + b.length + 1)) = xs.drop (ts.length - b.length) := by
        rw [List.drop_drop]
        congr 1
        omega
      rw [e3]
      have eset : setAll (a ++ s :: b) (ts.take a.length ++ .lst ((ts.take (ts.length - b.length)).drop a.length) :: ts.drop (ts.length - b.length)) env = some env' := by
        rw [setAll_app (by rw [List.length_take]; omega)]
        exact hb
      have hs : (a ++ s :: b) = a ++ [s] ++ b := by simp
      refine names_ok (ts := ts.take a.length ++ .lst ((ts.take (ts.length - b.length)).drop a.length) :: ts.drop (ts.length - b.length)) R2.pops ?_ eset (fun i hi => ?_) fun σ' R3 l3 o3 => q σ' F2 _ (by
        have e4 : kdL kd (a ++ s :: b) = kdP kd 0 (.star a s b) := by
          show (a ++ s :: b).foldl (fun k i => k.set i (.own 0)) kd = _
          rw [List.foldl_append]; rfl
        rw [← e4]; exact R3) s2 l3 o3
      · rw [List.append_assoc]
        exact ((h2.take _).mono s2).append (.cons r2 ((h2.drop _).mono s2))
      · obtain ⟨a1, a2⟩ := okSl_of ok hi
        exact ⟨by rw [← R.lk]; exact a1, a2, na i hi⟩
    · rw [if_neg hl] at hb; cases hb
  | _ => cases hb
end
end Pv
end

section
set_option Elab.async false
set_option linter.all false
set_option maxRecDepth 100000
/-! PvO: statements. -/
namespace Pv
open PySem PySem.Spec PyProof.Rows L2

section
variable {K : PySem.W.Frag} {G F H : Hp} {es : List Ent}
/-- a name gives its list away -/
theorem Lay.move {d i : Nat} {t : T} {v : V} (L : Lay K G F H es) (h : es[i]? = some ⟨.own d, t, v⟩) (na : NoAl es i) : Lay K G F H (es.set i ⟨.un, .non, .non⟩ ++ [⟨.own d, t, v⟩]) := by
  obtain ⟨c, q⟩ := L.col
  have hil := lt_of_get h
  refine ⟨L.fh, L.gh, ⟨fun a => if c a = some i then some es.length else if c a = some es.length then none else c a, fun j e hj => ?_⟩, fun j i' t' v' hj => ?_⟩
  · rcases getC hj with ⟨hl, h1⟩ | ⟨hl, rfl⟩
    · rcases getS h1 with ⟨rfl, _, rfl⟩ | ⟨hne, h2⟩
      · exact ⟨[], rfl, List.nodup_nil, fun a ha => by cases ha⟩
      · obtain ⟨al, r, nd, hc⟩ := q j e h2
        refine ⟨al, r, nd, fun a ha => ⟨?_, (hc a ha).2⟩⟩
        have e1 := (hc a ha).1
        have n1 : ¬ c a = some i := by rw [e1]; intro z; injection z with z; exact hne z
        have n2 : ¬ c a = some es.length := by
          rw [e1]; intro z; injection z with z
          have := lt_of_get h2
          omega
        show (if c a = some i then some es.length else if c a = some es.length then none else c a) = some j
        rw [if_neg n1, if_neg n2]; exact e1
    · obtain ⟨al, r, nd, hc⟩ := q i _ h
      refine ⟨al, r, nd, fun a ha => ⟨?_, (hc a ha).2⟩⟩
      have e1 := (hc a ha).1
      show (if c a = some i then some es.length else if c a = some es.length then none else c a) = some j
      rw [if_pos e1, hl, List.length_set]
  · rcases getC hj with ⟨hl, h1⟩ | ⟨hl, h1⟩
    · rcases getS h1 with ⟨rfl, _, h2⟩ | ⟨hne, h2⟩
      · cases h2
      · obtain ⟨hij, k, h3, h4⟩ := L.ali j i' t' v' h2
        refine ⟨hij, k, getL _ (getS_ne ?_ h3), h4⟩
        rintro rfl
        exact na j t' v' h2
    · cases h1
theorem slotsOf_un : ∀ {kd : List Kd} {env : Env} {σ : L2.St} {i : Nat}, slotsOf kd (env.set i none) σ = (slotsOf kd env σ).set i ⟨.un, .non, .non⟩
  | [], _, _, i => rfl
  | _ :: _, [], _, i => by cases i <;> rfl
  | _ :: _, _ :: _, [], i => by cases i <;> rfl
  | _ :: _, _ :: _, _ :: _, 0 => rfl
  | k' :: ks, o :: os, s :: ss, i + 1 => by
    show _ :: slotsOf ks (os.set i none) ss = _ :: (slotsOf ks os ss).set i _
    rw [slotsOf_un]
theorem slotsOf_kd {k : Kd} : ∀ {kd : List Kd} {env : Env} {σ : L2.St} {i : Nat}, (env[i]? = some none ∨ σ[i]? = some none) → slotsOf (kd.set i k) env σ = slotsOf kd env σ
  | [], _, _, i, _ => rfl
  | _ :: _, [], _, i, _ => by cases i <;> rfl
  | _ :: _, _ :: _, [], i, _ => by cases i <;> rfl
  | _ :: ks, o :: os, s :: ss, 0, h => by
    rcases h with h | h
    · simp at h
      subst h
      rfl
    · simp at h
      subst h
      cases o <;> rfl
  | k' :: ks, o :: os, s :: ss, i + 1, h => by
    show _ :: slotsOf (ks.set i k) os ss = _ :: slotsOf ks os ss
    rw [slotsOf_kd (by simpa using h)]
end
section
variable {A : Act} {kd : List Kd} {F H : Hp} {env : Env} {σ : L2.St}
theorem SR.move {d i : Nat} {t : T} (R : SR A kd F H env σ []) (hk : kd[i]? = some (.own d)) (hv : getV env i = some t) : ∃ v, σ[i]? = some (some v) ∧ SR A kd F H (env.set i none) σ [⟨.own d, t, v⟩] := by
  obtain ⟨k, v, h1, h2, h3, _⟩ := R.slot hv
  rw [hk] at h1
  cases h1
  rw [List.append_nil] at h3
  have L := R.lay
  rw [List.append_nil] at L
  have L2 := L.move h3 (by have := R.noAl (i := i) (fun e he => by cases he); rwa [List.append_nil] at this)
  refine ⟨v, h2, by rw [List.length_set]; exact R.le, R.lk, R.nal, fun j t' hj => ?_, by rw [slotsOf_un]; exact L2, R.gr, fun e he j z => ?_, R.iov⟩
  · rcases getS hj with ⟨rfl, _, h⟩ | ⟨_, h⟩
    · cases h
    · exact R.bnd j t' h
  · have : e = ⟨.own d, t, v⟩ := by simpa using he
    subst this
    cases z
/-- a name's list is frozen -/
theorem SR.frzAt {d i : Nat} (R : SR A kd F H env σ []) (hk : kd[i]? = some (.own d)) : ∃ F', SR A (kd.set i (.own 0)) F' H env σ [] ∧ Same F F' := by
  have nio : ∀ e, kd[i]? ≠ some (.io e) := fun e z => by rw [hk] at z; cases z
  have iov : ∀ (j d : Nat) (v : V), A.iv[j]? = some (some (d, v)) → σ[j]? = some (some v) ∧ (kd.set i (.own 0))[j]? = some (.io d) := fun j e v h => by
    obtain ⟨h1, h2⟩ := R.iov j e v h
    exact ⟨h1, getS_ne (fun z => nio e (z ▸ h2)) h2⟩
  have nal : ∀ k ∈ kd.set i (.own 0), k.nm = true := fun k hk => by
    rcases List.mem_or_eq_of_mem_set hk with h | h
    · exact R.nal k h
    · rw [h]; rfl
  cases hv : getV env i with
  | none =>
    have hl : i < env.length := by rw [R.le, ← R.lk]; exact lt_of_get hk
    have he : env[i]? = some none := by
      unfold getV at hv
      rw [List.getElem?_eq_getElem hl] at hv ⊢
      exact congrArg some hv
    refine ⟨F, ⟨R.le, by rw [List.length_set]; exact R.lk, nal, R.bnd, ?_, R.gr, R.als, iov⟩, Same.refl F⟩
    rw [slotsOf_kd (.inl he)]
    exact R.lay
  | some t =>
    obtain ⟨v, h2, R2⟩ := R.move hk hv
    obtain ⟨F', R3, s3⟩ := SR.frz (tm := []) R2
    have L := R3.lay1
    rw [List.append_nil] at L
    have L2 := L.bind (i := i) (by have := R3.pops.noAl (i := i) (fun e he => by cases he); rwa [List.append_nil] at this) (fun _ z => by cases z)
    refine ⟨F', ⟨R.le, by rw [List.length_set]; exact R.lk, nal, R.bnd, ?_, R3.gr, R.als, iov⟩, s3⟩
    rw [List.append_nil]
    rw [slotsOf_un, List.set_set] at L2
    have e : (slotsOf kd env σ).set i ⟨.own 0, t, v⟩ = slotsOf (kd.set i (.own 0)) env σ := by
      rw [← slotsOf_set, set_same (getV_some hv), set_same h2]
    rw [← e]
    exact L2
end

/-- what a def gives back -/
def RetR (A : Act) (rk : Nat) (F : Hp) (env' : Env) (t : T) (v : V) (H' : Hp) : Prop := ∃ kd' F' env'' σ', SR A kd' F' H' env'' σ' [⟨.own rk, t, v⟩] ∧ Same F F' ∧ ∀ (i : Nat) (w : Nat × V), A.iv[i]? = some (some w) → getV env'' i = getV env' i
def fin (A : Act) (rk : Nat) (kd' : List Kd) (kl : Option (List Kd)) (D : Ends) (F : Hp) (env' : Env) : Fl → Prop
  | .nx => ∀ F' H' σ', SR A kd' F' H' env' σ' [] → Same F F' → D.nx σ' H'
  | .brk => ∃ k, kl = some k ∧ ∀ F' H' σ', SR A k F' H' env' σ' [] → Same F F' → D.bk σ' H'
  | .cont => ∃ k, kl = some k ∧ ∀ F' H' σ', SR A k F' H' env' σ' [] → Same F F' → D.ct σ' H'
  | .ret t => ∀ v H', RetR A rk F env' t v H' → D.rt v H'
theorem fin.mono {A : Act} {rk : Nat} {kd' : List Kd} {kl : Option (List Kd)} {D : Ends} {F F1 : Hp} {env' : Env} (s : Same F F1) : ∀ {fl : Fl}, fin A rk kd' kl D F env' fl → fin A rk kd' kl D F1 env' fl
  | .nx, h => fun F' H' σ' R s' => h F' H' σ' R (s.trans s')
  | .brk, ⟨k, e, h⟩ => ⟨k, e, fun F' H' σ' R s' => h F' H' σ' R (s.trans s')⟩
  | .cont, ⟨k, e, h⟩ => ⟨k, e, fun F' H' σ' R s' => h F' H' σ' R (s.trans s')⟩
  | .ret t, h => fun v H' ⟨kd2, F', env2, σ2, R, s', q⟩ => h v H' ⟨kd2, F', env2, σ2, R, s.trans s', q⟩
def tS (A : Act) (rk : Nat) (kd kd' : List Kd) (kl : Option (List Kd)) (st : Stm) : TS := fun D σ H => ∃ F env fl env', SR A kd F H env σ [] ∧ evS A.C st env = some (fl, env') ∧ fin A rk kd' kl D F env' fl
def tB (A : Act) (rk : Nat) (kd kd' : List Kd) (kl : Option (List Kd)) (b : List Stm) : TS := fun D σ H => ∃ F env fl env', SR A kd F H env σ [] ∧ evB A.C b env = some (fl, env') ∧ fin A rk kd' kl D F env' fl
theorem PS.imp {X : Cx} {e : Stmt} {t t' : TS} (h : PS X e t) (i : ∀ D σ H, t' D σ H → t D σ H) : PS X e t' := ⟨fun pins s σ H D I q => h.run pins s σ H D I (i D σ H q)⟩
theorem PSs.imp {X : Cx} {e : List Stmt} {t t' : TS} (h : PSs X e t) (i : ∀ D σ H, t' D σ H → t D σ H) : PSs X e t' := ⟨fun pins s σ H D I q => h.run pins s σ H D I (i D σ H q)⟩

section
variable {A : Act} {kd kd' kd2 : List Kd} {X : Cx} {rk : Nat} {kl : Option (List Kd)}
theorem NoT.nil {x : Ir} : NoT A x [] := fun e he => by cases he
theorem evS_asg {C : Cal} {p : Pat} {e : Ir} {env env' : Env} {fl : Fl} (h : evS C (.asg p e) env = some (fl, env')) : ∃ t env1, evE C e env = some (t, env1) ∧ bindP p t env1 = some env' ∧ fl = .nx := by
  unfold evS at h
  obtain ⟨⟨x, e1⟩, h1, h⟩ := bind_some h
  obtain ⟨y, h2, h⟩ := bind_some h
  cases h
  exact ⟨x, e1, h1, h2, rfl⟩
theorem asg_imp {d : Nat} {p : Pat} {e : Ir} : ∀ D σ H, tS A rk kd (kdP kd d p) kl (.asg p e) D σ H → tAsg (tF A kd d e) (gT A kd d p) D σ H := fun D σ H ⟨F, env, fl, env', R, ev, q⟩ => by
  obtain ⟨t, env1, h1, h2, rfl⟩ := evS_asg ev
  refine ⟨F, env, [], t, env1, R, NoT.nil, h1, fun v F1 H1 R1 s1 => ⟨F1, env1, [], t, env', R1, fun i hi e he => (by cases he), h2, fun σ' F2 H2 R2 s2 _ _ => q F2 H2 σ' R2 (s1.trans s2)⟩⟩
theorem st_asg {d : Nat} {p : Pat} {e : Ir} {tg ex : Expr} {pos : Pos} (he : PE X ex (tF A kd d e)) (hg : PG X tg (gT A kd d p)) (hs : swapsWithSole [tg] ex pos.line X.env = pure false) (hw : swappedStores [tg] ex X.env = pure none) (h1 : (assignEach [tg] X.env).map (·.2) = [assign tg X.env]) :
    PS X (.Assign [tg] ex pos) (tS A rk kd (kdP kd d p) kl (.asg p e)) := PS.imp (ps_asg he hg hs hw h1) asg_imp
theorem asgN_imp {d i : Nat} {e : Ir} (ok : okSl kd [i] = true) : ∀ D σ H, tS A rk kd (kdP kd d (.nm i)) kl (.asg (.nm i) e) D σ H → tAsg (tF A kd d e) (gName i) D σ H := fun D σ H ⟨F, env, fl, env', R, ev, q⟩ => by
  obtain ⟨t, env1, h1, h2, rfl⟩ := evS_asg ev
  refine ⟨F, env, [], t, env1, R, NoT.nil, h1, fun v F1 H1 R1 s1 => ?_⟩
  have h2 : some (env1.set i (some t)) = some env' := h2
  cases h2
  obtain ⟨a1, a2⟩ := okSl_of ok (i := i) (by simp)
  exact q F1 H1 _ (R1.bindN (by rw [← R.lk]; exact a1) (fun e he => by cases he) a2) s1

theorem evS_expr {C : Cal} {e : Ir} {env env' : Env} {fl : Fl} (h : evS C (.expr e) env = some (fl, env')) : ∃ t, evE C e env = some (t, env') ∧ fl = .nx := by
  unfold evS at h
  obtain ⟨⟨x, e1⟩, h1, h⟩ := bind_some h
  cases h
  exact ⟨x, h1, rfl⟩
theorem st_expr {d : Nat} {e : Ir} {ex : Expr} {pos : Pos} (he : PE X ex (tF A kd d e)) (hs : swapsWith ex none pos.line X.env = pure false) : PS X (.Expr ex pos) (tS A rk kd kd kl (.expr e)) :=
  PS.imp (ps_expr he hs) fun D σ H ⟨F, env, fl, env', R, ev, q⟩ => by
    obtain ⟨t, h1, rfl⟩ := evS_expr ev
    exact ⟨F, env, [], t, env', R, NoT.nil, h1, fun v F1 H1 R1 s1 => q F1 H1 σ R1.pops s1⟩
theorem evS_ret {C : Cal} {e : Ir} {env env' : Env} {fl : Fl} (h : evS C (.ret e) env = some (fl, env')) : ∃ t, evE C e env = some (t, env') ∧ fl = .ret t := by
  unfold evS at h
  obtain ⟨⟨x, e1⟩, h1, h⟩ := bind_some h
  cases h
  exact ⟨x, h1, rfl⟩
theorem st_ret {e : Ir} {ex : Expr} {pos : Pos} (he : PE X ex (tF A kd rk e)) : PS X (.Return (some ex) pos) (tS A rk kd kd' kl (.ret e)) :=
  PS.imp (ps_ret he) fun D σ H ⟨F, env, fl, env', R, ev, q⟩ => by
    obtain ⟨t, h1, rfl⟩ := evS_ret ev
    exact ⟨F, env, [], t, env', R, NoT.nil, h1, fun v F1 H1 R1 s1 => q v H1 ⟨kd, F1, env', σ, R1, s1, fun _ _ _ => rfl⟩⟩
/-- a name gives its list away -/
theorem st_retNm {i : Nat} {x : Str} {p pos : Pos} (hN : X.N[i]? = some x) (hv : Vis X.env.scope x) (hd : (x == ("__debug__" : Str)) = false) (hcd : (x == ("__classdict__" : Str)) = false) (hk : kd[i]? = some (.own rk)) : PS X (.Return (some (.Name x p)) pos) (tS A rk kd kd' kl (.ret (.nm i))) :=
  PS.imp (ps_ret (pe_var (i := i) hN hv hd hcd)) fun D σ H ⟨F, env, fl, env', R, ev, q⟩ => by
    obtain ⟨t, h1, rfl⟩ := evS_ret ev
    obtain ⟨h2, rfl⟩ := evE_nm h1
    obtain ⟨v, h3, R2⟩ := R.move hk h2
    refine ⟨v, h3, q v H ⟨kd, F, _, σ, R2, Same.refl F, fun j w hj => ?_⟩⟩
    obtain ⟨d, w⟩ := w
    obtain ⟨_, h4⟩ := R.iov j d w hj
    rw [getV_set, if_neg]
    rintro ⟨rfl, _⟩
    rw [hk] at h4
    cases h4
theorem st_retN {pos : Pos} : PS X (.Return none pos) (tS A rk kd kd' kl .retN) :=
  PS.imp ps_retN fun D σ H ⟨F, env, fl, env', R, ev, q⟩ => by
    have ev : some (Fl.ret .non, env) = some (fl, env') := ev
    cases ev
    exact q .non H ⟨kd, F, env, σ, R.pushes (fun _ h => .inl h) (R.lay.pushN rk .non rfl), Same.refl F, fun _ _ _ => rfl⟩
theorem st_brk {pos : Pos} (hl : kl = some kd) : PS X (.Break pos) (tS A rk kd kd' kl .brk) :=
  PS.imp ps_break fun D σ H ⟨F, env, fl, env', R, ev, q⟩ => by
    have ev : some (Fl.brk, env) = some (fl, env') := ev
    cases ev
    obtain ⟨k, e, q⟩ := q
    rw [hl] at e
    cases e
    exact q F H σ R (Same.refl F)
theorem st_cont {pos : Pos} (hl : kl = some kd) : PS X (.Continue pos) (tS A rk kd kd' kl .cont) :=
  PS.imp ps_continue fun D σ H ⟨F, env, fl, env', R, ev, q⟩ => by
    have ev : some (Fl.cont, env) = some (fl, env') := ev
    cases ev
    obtain ⟨k, e, q⟩ := q
    rw [hl] at e
    cases e
    exact q F H σ R (Same.refl F)

/-! ### blocks -/
theorem evB_nil {C : Cal} {env env' : Env} {fl : Fl} (h : evB C [] env = some (fl, env')) : fl = .nx ∧ env' = env := by
  have h : some (Fl.nx, env) = some (fl, env') := h
  cases h
  exact ⟨rfl, rfl⟩
theorem evB_cons {C : Cal} {s : Stm} {b : List Stm} {env env' : Env} {fl : Fl} (h : evB C (s :: b) env = some (fl, env')) : ∃ f env1, evS C s env = some (f, env1) ∧ ((f = .nx ∧ evB C b env1 = some (fl, env')) ∨ (f ≠ .nx ∧ fl = f ∧ env' = env1)) := by
  unfold evB at h
  obtain ⟨⟨f, e1⟩, h1, h⟩ := bind_some h
  refine ⟨f, e1, h1, ?_⟩
  cases f with
  | nx => exact .inl ⟨rfl, h⟩
  | brk => cases h; exact .inr ⟨(fun z => by cases z), rfl, rfl⟩
  | cont => cases h; exact .inr ⟨(fun z => by cases z), rfl, rfl⟩
  | ret t => cases h; exact .inr ⟨(fun z => by cases z), rfl, rfl⟩
theorem b_nil : PSs X [] (tB A rk kd kd kl []) := PSs.imp pss_nil fun D σ H ⟨F, env, fl, env', R, ev, q⟩ => by
  obtain ⟨rfl, rfl⟩ := evB_nil ev
  exact q F H σ R (Same.refl F)
theorem b_cons {st : Stmt} {rest : List Stmt} {s : Stm} {b : List Stm} (h1 : PS X st (tS A rk kd kd2 kl s)) (h2 : PSs X rest (tB A rk kd2 kd' kl b)) : PSs X (st :: rest) (tB A rk kd kd' kl (s :: b)) :=
  PSs.imp (pss_cons h1 h2) fun D σ H ⟨F, env, fl, env', R, ev, q⟩ => by
    obtain ⟨f, env1, h1, h2⟩ := evB_cons ev
    refine ⟨F, env, f, env1, R, h1, ?_⟩
    rcases h2 with ⟨rfl, h2⟩ | ⟨hf, rfl, rfl⟩
    · exact fun F1 H1 σ1 R1 s1 => ⟨F1, env1, fl, env', R1, h2, fin.mono s1 q⟩
    · cases fl with
      | nx => exact absurd rfl hf
      | brk => exact q
      | cont => exact q
      | ret t => exact q
theorem b_pass {pos : Pos} {rest : List Stmt} {b : List Stm} (h2 : PSs X rest (tB A rk kd kd' kl b)) : PSs X (.Pass pos :: rest) (tB A rk kd kd' kl b) :=
  PSs.imp (pss_cons ps_pass h2) fun D σ H q => q
theorem b_frz {i d : Nat} {sts : List Stmt} {b : List Stm} (hk : kd[i]? = some (.own d)) (h : PSs X sts (tB A rk (kd.set i (.own 0)) kd' kl b)) : PSs X sts (tB A rk kd kd' kl (.frz i :: b)) :=
  PSs.imp h fun D σ H ⟨F, env, fl, env', R, ev, q⟩ => by
    obtain ⟨f, env1, h1, h2⟩ := evB_cons ev
    have h1 : some (Fl.nx, env) = some (f, env1) := h1
    cases h1
    rcases h2 with ⟨_, h2⟩ | ⟨hf, _⟩
    · obtain ⟨F', R', s'⟩ := R.frzAt hk
      exact ⟨F', env, fl, env', R', h2, fin.mono s' q⟩
    · exact absurd rfl hf

/-! ### what never goes on -/
mutual
def falls : Stm → Bool
  | .ret _ => false
  | .retN => false
  | .brk => false
  | .cont => false
  | .ite _ a b => fallsB a || fallsB b
  | _ => true
def fallsB : List Stm → Bool
  | [] => true
  | s :: r => falls s && fallsB r
end
theorem evS_ite {C : Cal} {c : Ir} {a b : List Stm} {env env' : Env} {fl : Fl} (h : evS C (.ite c a b) env = some (fl, env')) : ∃ t env1, evE C c env = some (t, env1) ∧ evB C (if truth t = true then a else b) env1 = some (fl, env') := by
  unfold evS at h
  obtain ⟨⟨x, e1⟩, h1, h⟩ := bind_some h
  refine ⟨x, e1, h1, ?_⟩
  have h : (if truth x = true then evB C a e1 else evB C b e1) = some (fl, env') := h
  by_cases hx : truth x = true
  · rw [if_pos hx] at h ⊢; exact h
  · rw [if_neg hx] at h ⊢; exact h
mutual
theorem falls_nx {C : Cal} : ∀ {s : Stm} {env env' : Env}, falls s = false → evS C s env ≠ some (.nx, env')
  | .ret e, env, env', _, h => by
    obtain ⟨t, _, z⟩ := evS_ret h
    cases z
  | .retN, env, env', _, h => by
    have h : some (Fl.ret .non, env) = some (.nx, env') := h
    cases h
  | .brk, env, env', _, h => by
    have h : some (Fl.brk, env) = some (.nx, env') := h
    cases h
  | .cont, env, env', _, h => by
    have h : some (Fl.cont, env) = some (.nx, env') := h
    cases h
  | .ite c a b, env, env', hf, h => by
    obtain ⟨t, e1, _, h2⟩ := evS_ite h
    have hf := Bool.or_eq_false_iff.mp (show (fallsB a || fallsB b) = false from hf)
    by_cases ht : truth t = true
    · rw [if_pos ht] at h2; exact fallsB_nx hf.1 h2
    · rw [if_neg ht] at h2; exact fallsB_nx hf.2 h2
theorem fallsB_nx {C : Cal} : ∀ {b : List Stm} {env env' : Env}, fallsB b = false → evB C b env ≠ some (.nx, env')
  | [], _, _, hf, _ => by cases hf
  | s :: r, env, env', hf, h => by
    obtain ⟨f, e1, h1, h2⟩ := evB_cons h
    rcases h2 with ⟨rfl, h2⟩ | ⟨hn, e, _⟩
    · rcases Bool.and_eq_false_iff.mp (show (falls s && fallsB r) = false from hf) with z | z
      · exact falls_nx z h1
      · exact fallsB_nx z h2
    · exact hn e.symm
end
theorem b_never {sts : List Stmt} {b : List Stm} (hf : fallsB b = false) (h : PSs X sts (tB A rk kd kd2 kl b)) : PSs X sts (tB A rk kd kd' kl b) :=
  PSs.imp h fun D σ H ⟨F, env, fl, env', R, ev, q⟩ => by
    refine ⟨F, env, fl, env', R, ev, ?_⟩
    cases fl with
    | nx => exact absurd ev (fallsB_nx hf)
    | brk => exact q
    | cont => exact q
    | ret t => exact q

/-! ### if, while, for -/
theorem st_if {c : Ir} {ec : Expr} {pa pb : List Stmt} {a b : List Stm} {pos : Pos} (hc : PT X ec (tT A kd c)) (ha : PSs X pa (tB A rk kd kd' kl a)) (hb : PSs X pb (tB A rk kd kd' kl b)) : PS X (.If ec pa pb pos) (tS A rk kd kd' kl (.ite c a b)) :=
  PS.imp (ps_if hc ha hb) fun D σ H ⟨F, env, fl, env', R, ev, q⟩ => by
    obtain ⟨t, env1, h1, h2⟩ := evS_ite ev
    refine ⟨F, env, [], t, env1, R, NoT.nil, h1, fun F1 H1 R1 s1 => ?_⟩
    by_cases ht : truth t = true
    · rw [if_pos ht] at h2
      show if truth t = true then _ else _
      rw [if_pos ht]
      exact ⟨F1, env1, fl, env', R1, h2, fin.mono s1 q⟩
    · rw [if_neg ht] at h2
      show if truth t = true then _ else _
      rw [if_neg ht]
      exact ⟨F1, env1, fl, env', R1, h2, fin.mono s1 q⟩
theorem whileL_succ {c : Env → Option (T × Env)} {b : Env → Option (Fl × Env)} {n : Nat} {env env' : Env} {fl : Fl} (h : whileL c b (n + 1) env = some (fl, env')) :
    ∃ t env1, c env = some (t, env1) ∧ ((truth t = false ∧ fl = .nx ∧ env' = env1) ∨ (truth t = true ∧ ∃ r env2, b env1 = some (r, env2) ∧ match r with
      | .nx => whileL c b n env2 = some (fl, env')
      | .cont => whileL c b n env2 = some (fl, env')
      | .brk => fl = .nx ∧ env' = env2
      | .ret v => fl = .ret v ∧ env' = env2)) := by
  unfold whileL at h
  obtain ⟨⟨x, e1⟩, h1, h⟩ := bind_some h
  refine ⟨x, e1, h1, ?_⟩
  have h : (if truth x = true then (do
      let (r, env) ← b e1
      match r with
      | .nx => whileL c b n env
      | .cont => whileL c b n env
      | .brk => some (.nx, env)
      | .ret v => some (.ret v, env)) else some (.nx, e1)) = some (fl, env') := h
  by_cases hx : truth x = true
  · rw [if_pos hx] at h
    obtain ⟨⟨r, e2⟩, h2, h⟩ := bind_some h
    refine .inr ⟨hx, r, e2, h2, ?_⟩
    cases r with
    | nx => exact h
    | cont => exact h
    | brk => cases h; exact ⟨rfl, rfl⟩
    | ret v => cases h; exact ⟨rfl, rfl⟩
  · rw [if_neg hx] at h
    cases h
    exact .inl ⟨by simpa using hx, rfl, rfl⟩
theorem st_while {c : Ir} {ec : Expr} {pb : List Stmt} {b : List Stm} {pos : Pos} (hp : PassesOwn (model X.prog X.w) X.A X.env X.xe) (hc : PT X ec (tT A kd c)) (hb : PSs X pb (tB A rk kd kd (some kd) b)) : PS X (.While ec pb [] pos) (tS A rk kd kd kl (.while_ c b)) :=
  PS.imp (ps_while hp hc hb) fun D σ H ⟨F, env, fl, env', R, ev, q⟩ => by
    have ev : whileL (evE A.C c) (evB A.C b) turns env = some (fl, env') := by
      unfold evS at ev; exact ev
    refine ⟨fun m σ H => ∃ F2 env2, Same F F2 ∧ SR A kd F2 H env2 σ [] ∧ whileL (evE A.C c) (evB A.C b) m env2 = some (fl, env'), ⟨turns, F, env, Same.refl F, R, ev⟩, fun m σ H ⟨F2, env2, s2, R2, e2⟩ => ?_⟩
    cases m with
    | zero => 
      unfold whileL at e2
      cases e2
    | succ m =>
      obtain ⟨t, env3, h1, h2⟩ := whileL_succ e2
      refine ⟨F2, env2, [], t, env3, R2, NoT.nil, h1, fun F3 H3 R3 s3 => ?_⟩
      rcases h2 with ⟨ht, rfl, rfl⟩ | ⟨ht, r, env4, h3, h4⟩
      · show if truth t = true then _ else _
        rw [if_neg (by rw [ht]; exact Bool.false_ne_true)]
        exact q F3 H3 σ R3 (s2.trans s3)
      · show if truth t = true then _ else _
        rw [if_pos ht]
        refine ⟨fun σ' H' => ∃ F2 env2, Same F F2 ∧ SR A kd F2 H' env2 σ' [] ∧ whileL (evE A.C c) (evB A.C b) m env2 = some (fl, env'), fun σ' H' w => ⟨m, Nat.lt_succ_self m, w⟩, F3, env3, r, env4, R3, h3, ?_⟩
        cases r with
        | nx => exact fun F5 H5 σ5 R5 s5 => ⟨F5, env4, (s2.trans s3).trans s5, R5, h4⟩
        | cont => exact ⟨kd, rfl, fun F5 H5 σ5 R5 s5 => ⟨F5, env4, (s2.trans s3).trans s5, R5, h4⟩⟩
        | brk =>
          obtain ⟨rfl, rfl⟩ := h4
          exact ⟨kd, rfl, fun F5 H5 σ5 R5 s5 => q F5 H5 σ5 R5 ((s2.trans s3).trans s5)⟩
        | ret v =>
          obtain ⟨rfl, rfl⟩ := h4
          exact fin.mono (fl := .ret v) (s2.trans s3) q
theorem forL_cons {f : T → Env → Option (Fl × Env)} {t : T} {l : List T} {env env' : Env} {fl : Fl} (h : forL f (t :: l) env = some (fl, env')) :
    ∃ r env2, f t env = some (r, env2) ∧ match r with
      | .nx => forL f l env2 = some (fl, env')
      | .cont => forL f l env2 = some (fl, env')
      | .brk => fl = .nx ∧ env' = env2
      | .ret v => fl = .ret v ∧ env' = env2 := by
  unfold forL at h
  obtain ⟨⟨r, e2⟩, h2, h⟩ := bind_some h
  refine ⟨r, e2, h2, ?_⟩
  cases r with
  | nx => exact h
  | cont => exact h
  | brk => cases h; exact ⟨rfl, rfl⟩
  | ret v => cases h; exact ⟨rfl, rfl⟩
theorem evS_for {C : Cal} {p : Pat} {it : Wk} {b : List Stm} {env env' : Env} {fl : Fl} (h : evS C (.for_ p it b) env = some (fl, env')) : ∃ l env1, evI C it env = some (l, env1) ∧ forL (fun t env => (bindP p t env).bind (evB C b)) l env1 = some (fl, env') := by
  unfold evS at h
  obtain ⟨⟨l, e1⟩, h1, h⟩ := bind_some h
  exact ⟨l, e1, h1, h⟩
theorem st_for {p : Pat} {it : Wk} {b : List Stm} {tg ei : Expr} {pb : List Stmt} {pos : Pos} (hp : PassesOwn (model X.prog X.w) X.A X.env X.xe) (hcm : X.calm = true) (hi : PI X tg ei (tI A kd it)) (hg : PG X tg (gT A kd 0 p)) (hb : PSs X pb (tB A rk kd kd (some kd) b))
    (hpl : p.plain = true) (hk : ∀ i ∈ p.slots, kd[i]? = some (.own 0)) (hs : ∀ x, foldedSetIterable ei X.env x = pure x) : PS X (.For tg ei pb [] pos) (tS A rk kd kd kl (.for_ p it b)) :=
  PS.imp (ps_for hp hcm hi hg hb hs) fun D σ H ⟨F, env, fl, env', R, ev, q⟩ => by
    obtain ⟨l, env1, h1, h2⟩ := evS_for ev
    refine ⟨F, env, [], l, env1, R, fun e he => (by cases he), h1, fun J F1 H1 R1 s1 wk => ?_⟩
    refine ⟨fun i m σ H => i + m = l.length ∧ ∃ F2 env2, Same F1 F2 ∧ SR A kd F2 H env2 σ [] ∧ forL (fun t env => (bindP p t env).bind (evB A.C b)) (l.drop i) env2 = some (fl, env'), ⟨l.length, by omega, F1, env1, Same.refl F1, R1, h2⟩, fun i m σ H ⟨em, F2, env2, s2, R2, e2⟩ => ?_⟩
    obtain ⟨w1, w2⟩ := wk F2 H s2 R2.lay.fh R2.lay.gh
    by_cases hi : i < l.length
    · obtain ⟨w3, w4⟩ := w2 i l[i] (List.getElem?_eq_getElem hi)
      rw [List.drop_eq_getElem_cons hi] at e2
      obtain ⟨r, env3, h3, h4⟩ := forL_cons e2
      obtain ⟨env4, h5, h6⟩ := Option.bind_eq_some_iff.mp h3
      refine .inr ⟨w3, fun σ' H' => (i + 1) + (m - 1) = l.length ∧ ∃ F2 env2, Same F1 F2 ∧ SR A kd F2 H' env2 σ' [] ∧ forL (fun t env => (bindP p t env).bind (evB A.C b)) (l.drop (i + 1)) env2 = some (fl, env'), fun σ' H' w => ⟨m - 1, by omega, w⟩, fun x H' hy => ?_⟩
      obtain ⟨F3, R3, s3⟩ := SR.fin0 R2 (w4 x H' hy)
      refine ⟨F3, env2, [], l[i], env4, R3, fun i hi e he => (by cases he), h5, fun σ2 F3' H3' R4 s3' _ _ => ?_⟩
      rw [kdP_own hpl hk] at R4
      refine ⟨F3', env4, r, env3, R4, h6, ?_⟩
      have s4 := (s2.trans s3).trans s3'
      cases r with
      | nx => exact fun F5 H5 σ5 R5 s5 => ⟨by omega, F5, env3, s4.trans s5, R5, h4⟩
      | cont => exact ⟨kd, rfl, fun F5 H5 σ5 R5 s5 => ⟨by omega, F5, env3, s4.trans s5, R5, h4⟩⟩
      | brk =>
        obtain ⟨rfl, rfl⟩ := h4
        exact ⟨kd, rfl, fun F5 H5 σ5 R5 s5 => q F5 H5 σ5 R5 ((s1.trans s4).trans s5)⟩
      | ret v =>
        obtain ⟨rfl, rfl⟩ := h4
        exact fin.mono (fl := .ret v) (s1.trans s4) q
    · rw [List.drop_eq_nil_of_le (by omega)] at e2
      have e2 : some (Fl.nx, env2) = some (fl, env') := e2
      cases e2
      exact .inl ⟨w1 i (by omega), q F2 H σ R2 (s1.trans s2)⟩
end
end Pv
end

section
set_option Elab.async false
set_option linter.all false
set_option maxRecDepth 100000
/-! PvP: stores by place, a, b = x, y, +=, lists within lists. -/
namespace Pv
open PySem PySem.Spec PyProof.Rows L2

section
variable {A : Act} {kd kd' : List Kd} {X : Cx} {rk : Nat} {kl : Option (List Kd)}
/-! ### x[k] = e -/
theorem evS_setix {C : Cal} {i : Nat} {k e : Ir} {env env' : Env} {fl : Fl} (h : evS C (.setix i k e) env = some (fl, env')) :
    ∃ x env1 l0 q env2 l j, evE C e env = some (x, env1) ∧ getV env1 i = some (.lst l0) ∧ evE C k env1 = some (.int q, env2) ∧ getV env2 i = some (.lst l) ∧ ixN l.length q = some j ∧ fl = .nx ∧ env' = env2.set i (some (.lst (l.set j x))) := by
  unfold evS at h
  obtain ⟨⟨x, e1⟩, h1, h⟩ := bind_some h
  obtain ⟨t0, h2, h⟩ := bind_some h
  obtain ⟨l0, h3, h⟩ := bind_some h
  obtain ⟨⟨q, e2⟩, h4, h⟩ := bind_some h
  obtain ⟨t, h5, h⟩ := bind_some h
  obtain ⟨l, h6, h⟩ := bind_some h
  obtain ⟨k', h7, h⟩ := bind_some h
  obtain ⟨j, h8, h⟩ := bind_some h
  have a1 := listOf_some h3
  have a2 := listOf_some h6
  have a3 := intOf_some h7
  have h9 : some (Fl.nx, e2.set i (some (.lst (l.set j x)))) = some (fl, env') := h
  subst a1 a2 a3
  cases h9
  exact ⟨x, e1, l0, k', e2, l, j, h1, h2, h4, h5, h8, rfl, rfl⟩
theorem ixN_lt {n j : Nat} {k : Int} (h : ixN n k = some j) : j < n := (ixN_seq h).2.1
theorem st_setix {d i : Nat} {k e : Ir} {ex ek : Expr} {x : Str} {p sp pos : Pos} (hN : X.N[i]? = some x) (hv : Vis X.env.scope x) (hd : (x == ("__debug__" : Str)) = false) (hcd : (x == ("__classdict__" : Str)) = false) (hm : mdK kd i d = true) (he : PE X ex (tF A kd d e)) (hk : PE X ek (tR A kd k))
    (ha : ∀ v, assign (.Subscript (.Name x p) ek sp) X.env v = (do
      let ov ← holding [v] (eval (.Name x p) X.env)
      let iv ← holding [v, ov] (eval ek X.env)
      standAt sp
      holding [v, ov, iv] (setItem ov iv v)
      release [v, ov, iv] [])) (hs : swapsWithSole [.Subscript (.Name x p) ek sp] ex pos.line X.env = pure false) (hw : swappedStores [.Subscript (.Name x p) ek sp] ex X.env = pure none) :
    PS X (.Assign [.Subscript (.Name x p) ek sp] ex pos) (tS A rk kd kd kl (.setix i k e)) :=
  PS.imp (ps_asg he (pg_sub (pe_var (i := i) hN hv hd hcd) hk set_list ha) hs hw (by rfl)) fun D σ H ⟨F, env, fl, env', R, ev, q⟩ => by
    obtain ⟨t, env1, l0, qi, env2, l, j, h1, h2, h3, h4, h5, rfl, rfl⟩ := evS_setix ev
    refine ⟨F, env, [], t, env1, R, NoT.nil, h1, fun v F1 H1 R1 s1 => ?_⟩
    obtain ⟨a0, xs0, g0, _⟩ := R1.lists h2 hm
    refine ⟨.ref a0, g0, F1, env1, _, .int qi, env2, R1, fun e he i z => ?_, h3, fun kk kv F2 H2 kr R2 s2 => ?_⟩
    · have : e = ⟨.own d, t, v⟩ := by simpa using he
      subst this
      cases z
    · have ek' := R2.intv kr
      subst ek'
      obtain ⟨a, xs, g1, g2, g3, R3⟩ := SR.modAt (tm := []) R2.pops h4 hm (ixN_lt h5) fun e he => by cases he
      rw [g0] at g1
      cases g1
      exact ⟨a0, xs, qi, j, rfl, rfl, g2, by rw [g3]; exact h5, q F2 _ σ R3 (s1.trans s2)⟩

/-! ### x += e -/
theorem evS_aug {C : Cal} {i : Nat} {o : Op} {e : Ir} {env env' : Env} {fl : Fl} (h : evS C (.aug i o e) env = some (fl, env')) :
    ∃ m n env1 z, getV env i = some (.int m) ∧ evE C e env = some (.int n, env1) ∧ opT o (.int m) (.int n) = some z ∧ fl = .nx ∧ env' = env1.set i (some z) := by
  unfold evS at h
  obtain ⟨t, h1, h⟩ := bind_some h
  obtain ⟨m, h2, h⟩ := bind_some h
  obtain ⟨⟨x, e1⟩, h3, h⟩ := bind_some h
  obtain ⟨n, h4, h⟩ := bind_some h
  obtain ⟨z, h5, h⟩ := bind_some h
  have a1 := intOf_some h2
  have a2 := intOf_some h4
  have h9 : some (Fl.nx, e1.set i (some z)) = some (fl, env') := h
  subst a1 a2
  cases h9
  exact ⟨m, n, e1, z, h1, h3, h5, rfl, rfl⟩
theorem st_aug {i : Nat} {o : Op} {po : Operator} {f : Int → Int → Int} {e : Ir} {ex : Expr} {x : Str} {p pos : Pos} (hNd : X.N.Nodup) (hN : X.N[i]? = some x) (hx : Loc X.env.scope x) (hf : X.fn x = true ∨ X.env.scope.names.lookup x = some .local) (h0 : kd[i]? = some (.own 0)) (ho : PIp X po (ipI f)) (hf2 : ∀ m n, opT o (.int m) (.int n) = some (.int (f m n))) (he : PE X ex (tR A kd e)) :
    PS X (.AugAssign (.Name x p) po ex pos) (tS A rk kd kd kl (.aug i o e)) :=
  PS.imp (ps_aug (pos' := p) hNd hN hx he ho hf) fun D σ H ⟨F, env, fl, env', R, ev, q⟩ => by
    obtain ⟨m, n, env1, z, h1, h2, h3, rfl, rfl⟩ := evS_aug ev
    rw [hf2] at h3
    cases h3
    obtain ⟨k, v, g1, g2, g3, _⟩ := R.slot h1
    rw [h0] at g1
    cases g1
    have ev' : v = .int m := by
      have r := R.lay.rep g3
      cases r; rfl
    subst ev'
    refine ⟨.int m, g2, F, env, [], .int n, env1, R, NoT.nil, h2, fun kk kv F1 H1 kr R1 s1 => ?_⟩
    have ek' := R1.intv kr
    subst ek'
    refine ⟨m, n, rfl, rfl, ?_⟩
    have R2 : SR A kd F1 H1 env1 σ ([] ++ [⟨.own 0, .int (f m n), .int (f m n)⟩]) := R1.pops.pushes (fun _ h => .inl h) (R1.pops.lay.pushV (.int _))
    have R3 := R2.bindN (i := i) (lt_of_get g2) (fun e he => by cases he) (fun e z => by rw [h0] at z; cases z)
    rw [set_same h0] at R3
    exact q F1 H1 _ R3 s1

/-! ### a, b = x, y -/
def ownEs : List Nat → List T → List V → List Ent
  | d :: ds, t :: ts, v :: vs => ⟨.own d, t, v⟩ :: ownEs ds ts vs
  | _, _, _ => []
def tDs (A : Act) (kd : List Kd) (ds : List Nat) (xs : List Ir) : TA := fun σ H Q => ∃ F env tm ts env', SR A kd F H env σ tm ∧ NoTs A xs tm ∧ evEs A.C xs env = some (ts, env') ∧ ∀ vs F' H', vs.length = ts.length → SR A kd F' H' env' σ (tm ++ ownEs ds ts vs) → Same F F' → Q vs H'
theorem d_nil : PA X [] (tDs A kd [] []) := PA.imp pa_nil fun σ H Q ⟨F, env, tm, ts, env', R, n, ev, q⟩ => by
  have ev : some (([] : List T), env) = some (ts, env') := ev
  cases ev
  exact q [] F H rfl (by show SR A kd F H env σ (tm ++ []); rw [List.append_nil]; exact R) (Same.refl F)
theorem d_cons {d : Nat} {ds : List Nat} {x : Ir} {xs : List Ir} {e : Expr} {es : List Expr} (he : PE X e (tF A kd d x)) (hr : PA X es (tDs A kd ds xs)) (hs : starEach (e :: es) X.env = (false, eval e X.env) :: starEach es X.env) : PA X (e :: es) (tDs A kd (d :: ds) (x :: xs)) :=
  PA.imp (pa_cons he hr hs) fun σ H Q ⟨F, env, tm, us, env', R, n, ev, q⟩ => by
    obtain ⟨t, env1, ts, h1, h2, rfl⟩ := evEs_cons ev
    refine ⟨F, env, tm, t, env1, R, NoT.of n, h1, fun v F1 H1 R1 s1 => ?_⟩
    refine ⟨F1, env1, tm ++ [⟨.own d, t, v⟩], ts, env', R1, fun e he i z => ?_, h2, fun vs F2 H2 hl R2 s2 => ?_⟩
    · rcases List.mem_append.mp he with he | he
      · exact NoTs.tail n e he i z
      · have : e = ⟨.own d, t, v⟩ := by simpa using he
        subst this
        cases z
    · refine q (v :: vs) F2 H2 (by simpa using hl) ?_ (s1.trans s2)
      show SR A kd F2 H2 env' σ (tm ++ ⟨.own d, t, v⟩ :: ownEs ds ts vs)
      simpa using R2
theorem evS_par {C : Cal} {l : List Nat} {es : List Ir} {env env' : Env} {fl : Fl} (h : evS C (.par l es) env = some (fl, env')) : ∃ ts env1, evEs C es env = some (ts, env1) ∧ setAll l ts env1 = some env' ∧ fl = .nx := by
  unfold evS at h
  obtain ⟨⟨ts, e1⟩, h1, h⟩ := bind_some h
  obtain ⟨e2, h2, h⟩ := bind_some h
  cases h
  exact ⟨ts, e1, h1, h2, rfl⟩
theorem nio_set {kd : List Kd} {i j d : Nat} (h : ∀ e, kd[i]? ≠ some (.io e)) : ∀ e, (kd.set j (.own d))[i]? ≠ some (.io e) := fun e z => by
  rcases getS z with ⟨_, _, z⟩ | ⟨_, z⟩
  · cases z
  · exact h e z
theorem st_par2 {i j d1 d2 : Nat} {a b : Ir} {x y : Str} {ea eb : Expr} {px py pt pos pt2 : Pos} {kt k2 : Nat} (hc : X.calm = true) (hNd : X.N.Nodup) (hi : X.N[i]? = some x) (hj : X.N[j]? = some y) (hij : i ≠ j) (hx : X.env.scope.names.lookup x = some .local) (hy : X.env.scope.names.lookup y = some .local)
    (ok : okSl kd [i, j] = true) (ha : PA X [ea, eb] (tDs A kd [d1, d2] [a, b])) (hw : swappedStores [.Tuple [.Name x px, .Name y py] kt pt] (.Tuple [ea, eb] k2 pt2) X.env = pure (some [x, y])) :
    PS X (.Assign [.Tuple [.Name x px, .Name y py] kt pt] (.Tuple [ea, eb] k2 pt2) pos) (tS A rk kd ((kd.set j (.own d2)).set i (.own d1)) kl (.par [i, j] [a, b])) :=
  PS.imp (ps_par hc hNd hi hj hij hx hy ha hw (by rfl)) fun D σ H ⟨F, env, fl, env', R, ev, q⟩ => by
    obtain ⟨ts, env1, h1, h2, rfl⟩ := evS_par ev
    refine ⟨F, env, [], ts, env1, R, fun e he => (by cases he), h1, fun vs F1 H1 hl R1 s1 => ?_⟩
    have e2 := setAll_len h2
    obtain ⟨t, u, rfl⟩ : ∃ t u, ts = [t, u] := by
      match ts, e2 with
      | [t, u], _ => exact ⟨t, u, rfl⟩
    obtain ⟨v, w, rfl⟩ : ∃ v w, vs = [v, w] := by
      match vs, hl with
      | [v, w], _ => exact ⟨v, w, rfl⟩
    refine ⟨v, w, rfl, ?_⟩
    obtain ⟨a1, a2⟩ := okSl_of ok (i := i) (by simp)
    obtain ⟨b1, b2⟩ := okSl_of ok (i := j) (by simp)
    have R2 : SR A kd F1 H1 env1 σ ([⟨.own d1, t, v⟩] ++ [⟨.own d2, u, w⟩]) := R1
    have R3 := R2.bindN (i := j) (by rw [← R.lk]; exact b1) (fun e he z => by
      have : e = ⟨.own d1, t, v⟩ := by simpa using he
      subst this
      cases z) b2
    have R4 := SR.bindN (tm := []) R3 (i := i) (by rw [List.length_set, ← R.lk]; exact a1) (fun e he => by cases he) (nio_set a2)
    have h2 : some ((env1.set i (some t)).set j (some u)) = some env' := h2
    cases h2
    have cm : ∀ {α : Type} (l : List α) (p q : α), (l.set j q).set i p = (l.set i p).set j q := fun l p q => List.set_comm _ _ (Ne.symm hij)
    rw [cm env1, cm σ] at R4
    exact q F1 H1 _ R4 s1
theorem st_par3 {i j k d1 d2 d3 : Nat} {a b c : Ir} {x y z : Str} {ea eb ec : Expr} {px py pz pt pos pt2 : Pos} {kt k2 : Nat} (hc : X.calm = true) (hNd : X.N.Nodup) (hi : X.N[i]? = some x) (hj : X.N[j]? = some y) (hk : X.N[k]? = some z) (hij : i ≠ j) (hik : i ≠ k) (hjk : j ≠ k)
    (hx : X.env.scope.names.lookup x = some .local) (hy : X.env.scope.names.lookup y = some .local) (hz : X.env.scope.names.lookup z = some .local)
    (ok : okSl kd [i, j, k] = true) (ha : PA X [ea, eb, ec] (tDs A kd [d1, d2, d3] [a, b, c])) (hw : swappedStores [.Tuple [.Name x px, .Name y py, .Name z pz] kt pt] (.Tuple [ea, eb, ec] k2 pt2) X.env = pure (some [x, y, z])) :
    PS X (.Assign [.Tuple [.Name x px, .Name y py, .Name z pz] kt pt] (.Tuple [ea, eb, ec] k2 pt2) pos) (tS A rk kd (((kd.set k (.own d3)).set j (.own d2)).set i (.own d1)) kl (.par [i, j, k] [a, b, c])) :=
  PS.imp (ps_par3 hc hNd hi hj hk hij hik hjk hx hy hz ha hw (by rfl)) fun D σ H ⟨F, env, fl, env', R, ev, q⟩ => by
    obtain ⟨ts, env1, h1, h2, rfl⟩ := evS_par ev
    refine ⟨F, env, [], ts, env1, R, fun e he => (by cases he), h1, fun vs F1 H1 hl R1 s1 => ?_⟩
    have e2 := setAll_len h2
    obtain ⟨t, u, s, rfl⟩ : ∃ t u s, ts = [t, u, s] := by
      match ts, e2 with
      | [t, u, s], _ => exact ⟨t, u, s, rfl⟩
    obtain ⟨v, w, r, rfl⟩ : ∃ v w r, vs = [v, w, r] := by
      match vs, hl with
      | [v, w, r], _ => exact ⟨v, w, r, rfl⟩
    refine ⟨v, w, r, rfl, ?_⟩
    obtain ⟨a1, a2⟩ := okSl_of ok (i := i) (by simp)
    obtain ⟨b1, b2⟩ := okSl_of ok (i := j) (by simp)
    obtain ⟨c1, c2⟩ := okSl_of ok (i := k) (by simp)
    have R2 : SR A kd F1 H1 env1 σ ([⟨.own d1, t, v⟩, ⟨.own d2, u, w⟩] ++ [⟨.own d3, s, r⟩]) := R1
    have R3 := R2.bindN (i := k) (by rw [← R.lk]; exact c1) (fun e he z => by
      have : e = ⟨.own d1, t, v⟩ ∨ e = ⟨.own d2, u, w⟩ := by simpa using he
      rcases this with rfl | rfl <;> cases z) c2
    have R3 : SR A (kd.set k (.own d3)) F1 H1 (env1.set k (some s)) (σ.set k (some r)) ([⟨.own d1, t, v⟩] ++ [⟨.own d2, u, w⟩]) := R3
    have R4 := R3.bindN (i := j) (by rw [List.length_set, ← R.lk]; exact b1) (fun e he z => by
      have : e = ⟨.own d1, t, v⟩ := by simpa using he
      subst this
      cases z) (nio_set b2)
    have R5 := SR.bindN (tm := []) R4 (i := i) (by rw [List.length_set, List.length_set, ← R.lk]; exact a1) (fun e he => by cases he) (nio_set (nio_set a2))
    have h2 : some (((env1.set i (some t)).set j (some u)).set k (some s)) = some env' := h2
    cases h2
    have cm : ∀ {α : Type} (l : List α) (p q r : α), ((l.set k r).set j q).set i p = ((l.set i p).set j q).set k r := fun l p q r => by
      rw [List.set_comm _ _ (Ne.symm hjk) (l := l), List.set_comm _ _ (Ne.symm hik) (l := l.set j q), List.set_comm _ _ (Ne.symm hij) (l := l)]
    rw [cm env1, cm σ] at R5
    exact q F1 H1 _ R5 s1

/-! ### x[k].append(a), x[k].pop(), x[k] != [] -/
theorem evE_appIn {C : Cal} {i : Nat} {p a : Ir} {env env' : Env} {t : T} (h : evE C (.app i (some p) a) env = some (t, env')) :
    ∃ l0 q env1 x env2 l j m, getV env i = some (.lst l0) ∧ evE C p env = some (.int q, env1) ∧ evE C a env1 = some (x, env2) ∧ getV env2 i = some (.lst l) ∧ ixN l.length q = some j ∧ l[j]? = some (.lst m) ∧ okLen (m.length + 1) = true ∧ t = .non ∧ env' = env2.set i (some (.lst (l.set j (.lst (m ++ [x]))))) := by
  unfold evE at h
  obtain ⟨t0, h1, h⟩ := bind_some h
  obtain ⟨l0, h2, h⟩ := bind_some h
  obtain ⟨⟨q, e1⟩, h3, h⟩ := bind_some h
  obtain ⟨⟨x, e2⟩, h4, h⟩ := bind_some h
  obtain ⟨t1, h5, h⟩ := bind_some h
  obtain ⟨l, h6, h⟩ := bind_some h
  obtain ⟨qi, h7, h⟩ := bind_some h
  obtain ⟨j, h8, h⟩ := bind_some h
  obtain ⟨u, h9, h⟩ := bind_some h
  obtain ⟨m, h10, h⟩ := bind_some h
  have a1 := listOf_some h2
  have a2 := listOf_some h6
  have a3 := intOf_some h7
  have a4 := listOf_some h10
  have hh : (if okLen (m.length + 1) = true then some (T.non, e2.set i (some (.lst (l.set j (.lst (m ++ [x])))))) else none) = some (t, env') := h
  subst a1 a2 a3 a4
  by_cases hl : okLen (m.length + 1) = true
  · rw [if_pos hl] at hh
    cases hh
    exact ⟨l0, qi, e1, x, e2, l, j, m, h1, h3, h4, h5, h8, h9, hl, rfl, rfl⟩
  · rw [if_neg hl] at hh; cases hh
theorem simE_env {C : Cal} : ∀ {a : Ir} {env env' : Env} {t : T}, simE kd a = true → evE C a env = some (t, env') → env' = env
  | .nm i, env, env', t, _, h => (evE_nm h).2
  | .con u, env, env', t, _, h => (evE_con h).2
  | .bin o a b, env, env', t, hs, h => by
    obtain ⟨x, e1, y, h1, h2, _⟩ := evE_bin h
    have hab : simE kd a = true ∧ simE kd b = true := by
      cases o <;> first | exact Bool.and_eq_true_iff.mp hs | cases hs
    rw [simE_env hab.2 h2, simE_env hab.1 h1]
theorem s_appIn {i : Nat} {k a : Ir} {e ek : Expr} {x : Str} {p sp apos cpos : Pos} (hN : X.N[i]? = some x) (hv : Vis X.env.scope x) (hd : (x == ("__debug__" : Str)) = false) (hcd : (x == ("__classdict__" : Str)) = false) (hm : mdK kd i 1 = true) (hK : A.K = X.K) (hk : PE X ek (tR A kd k)) (hsim : simE kd a = true) (ha : PE X e (tZ A kd a)) (hx : PlainIx ek)
    (hs : starEach [e] X.env = (false, eval e X.env) :: starEach [] X.env) (hline : (apos.endLine == cpos.line) = true) :
    PE X (.Call (.Attribute (.Subscript (.Name x p) ek sp) "append" apos) [e] [] cpos) (tF A kd 1 (.app i (some k) a)) :=
  PE.imp (pe_bm PySem.F.plainAttrs_list PySem.F.slot_list_append PySem.F.type_list_append mt_append (pe_ix ix_list (pe_var (i := i) hN hv hd hcd) hk hx) (pa_cons ha pa_nil hs) (hbase := by rfl) (hfew := by rw [hs]; rfl) (hline := hline) (hs := hs) (hplain := by rfl)) fun σ H Q ⟨F, env, tm, t, env', R, n, ev, q⟩ => by
    obtain ⟨l0, qi, env1, u, env2, l, j, m, h1, h2, h3, h4, h5, h6, h7, rfl, rfl⟩ := evE_appIn ev
    have n0 : ∀ e ∈ tm, ∀ j, e.k = .al j → (j == i || tchE A.io j k || tchE A.io j a) = false := n
    have na : ∀ e ∈ tm, e.k ≠ .al i := n.self (by show (i == i || tchO A.io i (some k) || tchE A.io i a) = true; simp)
    obtain ⟨a0, xs0, s0, z0⟩ := R.lists h1 hm
    refine ⟨.ref a0, s0, F, env, tm, .int qi, env1, R, fun e he j z => ?_, h2, fun kk v F1 H1 kr R1 s1 => ?_⟩
    · exact (Bool.or_eq_false_iff.mp (Bool.or_eq_false_iff.mp (n0 e he j z)).1).2
    have e1 := R1.intv kr
    subst e1
    have e2 := simE_env hsim h3
    subst e2
    obtain ⟨a1, xs, b, ms, g1, g2, g3, g4, g5, g6, g7⟩ := R1.pops.modIn h4 hm h6 na
    rw [s0] at g1
    cases g1
    refine ⟨a0, xs, qi, .ref b, rfl, rfl, SqL.of g2, atI_of h5 g3 g4, .inl ⟨rfl, ms, SqL.of g5⟩, F1, env2, tm, u, env2, R1.pops, h3, fun w _ rw' => ?_⟩
    refine ⟨b, ms, w, rfl, rfl, g5, ?_, ?_⟩
    · have := g6.length
      have := okLen_line h7
      omega
    · obtain ⟨F3, R4, s3⟩ := (g7 (m ++ [u]) (ms ++ [w]) (g6.append (.cons rw' .nil))).fin1 (z := .non) (v := .non) (outS .non)
      exact q _ F3 _ R4 (s1.trans s3)
theorem evE_popIn {C : Cal} {i : Nat} {p : Ir} {env env' : Env} {t : T} (h : evE C (.pop i (some p) none) env = some (t, env')) :
    ∃ l0 q env1 l j m m', getV env i = some (.lst l0) ∧ evE C p env = some (.int q, env1) ∧ getV env1 i = some (.lst l) ∧ ixN l.length q = some j ∧ l[j]? = some (.lst m) ∧ popL m (-1) = some (t, m') ∧ env' = env1.set i (some (.lst (l.set j (.lst m')))) := by
  unfold evE at h
  obtain ⟨t0, h1, h⟩ := bind_some h
  obtain ⟨l0, h2, h⟩ := bind_some h
  obtain ⟨⟨q, e1⟩, h3, h⟩ := bind_some h
  obtain ⟨⟨k, e2⟩, h4, h⟩ := bind_some h
  obtain ⟨t1, h5, h⟩ := bind_some h
  obtain ⟨l, h6, h⟩ := bind_some h
  obtain ⟨qi, h7, h⟩ := bind_some h
  obtain ⟨j, h8, h⟩ := bind_some h
  obtain ⟨u, h9, h⟩ := bind_some h
  obtain ⟨m, h10, h⟩ := bind_some h
  have hh : (do let (x, m) ← popL m (k.getD (-1)); some (x, e2.set i (some (.lst (l.set j (.lst m)))))) = some (t, env') := h
  obtain ⟨⟨y, m'⟩, h11, hh⟩ := bind_some hh
  have a1 := listOf_some h2
  have a2 := listOf_some h6
  have a3 := intOf_some h7
  have a4 := listOf_some h10
  obtain ⟨b1, b2⟩ := evO_none h4
  have hhh : some (y, e2.set i (some (.lst (l.set j (.lst m'))))) = some (t, env') := hh
  subst a1 a2 a3 a4 b1 b2
  cases hhh
  exact ⟨l0, qi, e2, l, j, m, m', h1, h3, h5, h8, h9, h11, rfl⟩
theorem s_popIn {i : Nat} {k : Ir} {ek : Expr} {x : Str} {p sp apos cpos : Pos} (hN : X.N[i]? = some x) (hv : Vis X.env.scope x) (hd : (x == ("__debug__" : Str)) = false) (hcd : (x == ("__classdict__" : Str)) = false) (hm : mdK kd i 1 = true) (hK : A.K = X.K) (hk : PE X ek (tR A kd k)) (hx : PlainIx ek)
    (hline : (apos.endLine == cpos.line) = true) :
    PE X (.Call (.Attribute (.Subscript (.Name x p) ek sp) "pop" apos) [] [] cpos) (tF A kd 0 (.pop i (some k) none)) :=
  PE.imp (pe_bm0 PySem.F.plainAttrs_list PySem.F.slot_list_pop PySem.F.type_list_pop mt_pop (pe_ix ix_list (pe_var (i := i) hN hv hd hcd) hk hx) (hbase := by rfl) (hline := hline)) fun σ H Q ⟨F, env, tm, t, env', R, n, ev, q⟩ => by
    obtain ⟨l0, qi, env1, l, j, m, m', h1, h2, h4, h5, h6, h7, rfl⟩ := evE_popIn ev
    have n0 : ∀ e ∈ tm, ∀ j, e.k = .al j → (j == i || tchE A.io j k || false) = false := n
    have na : ∀ e ∈ tm, e.k ≠ .al i := n.self (by show (i == i || tchO A.io i (some k) || tchO A.io i none) = true; simp)
    obtain ⟨a0, xs0, s0, z0⟩ := R.lists h1 hm
    refine ⟨.ref a0, s0, F, env, tm, .int qi, env1, R, fun e he j z => ?_, h2, fun kk v F1 H1 kr R1 s1 => ?_⟩
    · exact (Bool.or_eq_false_iff.mp (Bool.or_eq_false_iff.mp (n0 e he j z)).1).2
    have e1 := R1.intv kr
    subst e1
    obtain ⟨a1, xs, b, ms, g1, g2, g3, g4, g5, g6, g7⟩ := R1.pops.modIn h4 hm h6 na
    rw [s0] at g1
    cases g1
    obtain ⟨hl, j', h8, h9, rfl⟩ := popL_some h7
    obtain ⟨rfl, hn⟩ := ixN_last h8
    obtain ⟨y, hy, ry⟩ := g6.get h9
    have hlen := g6.length
    refine ⟨a0, xs, qi, .ref b, rfl, rfl, SqL.of g2, atI_of h5 g3 g4, .inl ⟨rfl, ms, SqL.of g5⟩, b, ms, y, rfl, rfl, g5, by rw [← hlen]; exact hy, ?_⟩
    have e := g6.eraseIdx (m.length - 1)
    rw [show ms.eraseIdx (m.length - 1) = ms.dropLast by rw [hlen]; exact erase_last ms] at e
    obtain ⟨F3, R4, s3⟩ := (g7 _ _ e).fin0 (.inr ⟨rfl, ry⟩)
    exact q _ F3 _ R4 (s1.trans s3)
theorem eqv_nil {l : List T} : PyData.eqv (T.lst l).d (T.lst []).d = l.isEmpty := by
  show PyData.eqv (.list (Ts.d l)) (.list []) = _
  cases l with
  | nil => simp [Ts.d, PyData.eqv, PyData.eqvAll]
  | cons a l => simp [Ts.d, PyData.eqv, PyData.eqvAll]
/-- x[k] != [] -/
theorem dne_op {i : Nat} {k : Int} {ek el : Expr} {x : Str} {p sp : Pos} (hK : A.K = X.K) (hm : mdK kd i 1 = true) :
    ∀ σ H Q, tF A kd 1 (.dne i k) σ H Q → tOp (rTc A.K (cmpT .ne)) (tOp (rIxL X.K) (tVar i) (tC (.int k))) (tLst tNil) σ H Q := fun σ H Q ⟨F, env, tm, t, env', R, n, ev, q⟩ => by
  obtain ⟨l, j, m, h1, h2, h3, h4, rfl, rfl⟩ := evE_dne ev
  obtain ⟨a, xs, w, al, g1, g2, g3, g4, g5⟩ := R.rd2 h1 hm h3
  obtain ⟨b, ms, rfl, p1, p2, p3, rfl⟩ := g5.one
  refine ⟨.ref a, g1, a, xs, k, .ref b, rfl, rfl, SqL.of g2, atI_of h2 g3 g4, Nat.zero_le _, fun o ho => ?_⟩
  have R1 := R.newD 0 ho
  refine ⟨F, .lst m, .lst [], .bl (!m.isEmpty), R1.lay.fh, ⟨b, ms, rfl, ?_, p3⟩, ⟨o, [], rfl, upd_same, .nil⟩, ?_, fun v H' out => ?_⟩
  · rw [upd_ne (ne_of_none p1 ho)]; exact p1
  · show (cmpT .ne (.lst m) (.lst [])).map T.bl = _
    show ((eqT (.lst m) (.lst [])).map (!·)).map T.bl = _
    unfold eqT
    have e1 : (T.lst m).pl = true := h4
    have e2 : (T.lst []).pl = true := rfl
    have e3 : decide (min (T.lst m).dep (T.lst []).dep ≤ 60) = true := by
      show decide (min (Ts.dep m + 1) (0 + 1) ≤ 60) = true
      rw [decide_eq_true_eq]
      omega
    rw [e1, e2, e3, eqv_nil]
    rfl
  · obtain ⟨F3, R4, s3⟩ := R1.pops.fin1 out
    exact q v F3 H' R4 s3
theorem s_dne {i : Nat} {k : Int} {ek : Expr} {x : Str} {p sp lp pos : Pos} (hN : X.N[i]? = some x) (hv : Vis X.env.scope x) (hd : (x == ("__debug__" : Str)) = false) (hcd : (x == ("__classdict__" : Str)) = false) (ho : OpR X (compareOp .NotEq) (rTc X.K (cmpT .ne))) (hm : mdK kd i 1 = true) (hK : A.K = X.K) (hk : PE X ek (tC (.int k))) (hs : PlainIx ek) :
    PE X (.Compare (.Subscript (.Name x p) ek sp) [.NotEq] [.List [] lp] pos) (tF A kd 1 (.dne i k)) := by
  rw [← hK] at ho
  exact PE.imp (pe_cmpR ho (pe_ix ix_list (pe_var (i := i) hN hv hd hcd) hk hs) (pe_lst pa_nil) rfl) (dne_op (ek := ek) (el := ek) (x := x) (p := p) (sp := sp) hK hm)
theorem t_dne {i : Nat} {k : Int} {ek : Expr} {x : Str} {p sp lp pos : Pos} (hN : X.N[i]? = some x) (hv : Vis X.env.scope x) (hd : (x == ("__debug__" : Str)) = false) (hcd : (x == ("__classdict__" : Str)) = false) (ho : OpR X (compareOp .NotEq) (rTc X.K (cmpT .ne))) (hm : mdK kd i 1 = true) (hK : A.K = X.K) (hk : PE X ek (tC (.int k))) (hs : PlainIx ek) :
    PT X (.Compare (.Subscript (.Name x p) ek sp) [.NotEq] [.List [] lp] pos) (tT A kd (.dne i k)) := by
  rw [← hK] at ho
  refine PT.imp (pt_cmpR ho (pe_ix ix_list (pe_var (i := i) hN hv hd hcd) hk hs) (pe_lst pa_nil) rfl) fun σ H Q ⟨F, env, tm, t, env', R, n, ev, q⟩ => ?_
  refine dne_op (ek := ek) (el := ek) (x := x) (p := p) (sp := sp) hK hm σ H (fun x H' => ∃ k, x = .bl k ∧ Q k H') ⟨F, env, tm, t, env', R, n, ev, fun v F1 H1 R1 s1 => ?_⟩
  obtain ⟨l, j, m, h1, h2, h3, h4, rfl, rfl⟩ := evE_dne ev
  obtain ⟨F2, R2, s2⟩ := R1.frz
  have e := (R2.rep (t := .bl (!m.isEmpty)) (v := v) last_get).blv
  exact ⟨_, e, q F1 H1 R1.pops s1⟩
end
end Pv
end

section
set_option Elab.async false
set_option linter.all false
set_option maxRecDepth 100000
/-! PvQ: calls. -/
namespace Pv
open PySem PySem.Spec PyProof.Rows L2

section
variable {K : PySem.W.Frag} {G F H : Hp} {es : List Ent}
/-- an entry that may be read, where what is owned elsewhere is not looked at -/
theorem EntR.bor {G' : Hp} {k : Kd} {t : T} {v : V} {al : List Addr} (r : EntR K G F H k t v al) (hr : k.reads = true) (s : Same F G') (sg : Same G G') (keep : ∀ a ∈ al, G' a = H a) : Bor K G' F t v := by
  have own : ∀ d, d ≤ 1 → OwnR K F H d t v al → Bor K G' F t v := fun d hd r => by
    rcases d with _ | _ | d
    · exact Bor.of r.2 s
    · cases t with
      | lst ts =>
        obtain ⟨a, xs, rfl, h1, h2, h3, rfl⟩ := r.one
        exact ⟨a, xs, rfl, by rw [keep a (by simp)]; exact h1, h3⟩
      | _ => exact r.2
    · omega
  cases k with
  | own d => exact own d (by rcases d with _ | _ | d <;> first | omega | cases hr) r
  | io d => exact own d (by rcases d with _ | _ | d <;> first | omega | cases hr) r
  | bor =>
    have r : al = [] ∧ Bor K G F t v := r
    have r := r.2
    cases t with
    | lst ts =>
      obtain ⟨a, xs, rfl, h1, h2⟩ := r
      exact ⟨a, xs, rfl, sg _ _ h1, h2⟩
    | _ => exact r
  | scr => cases hr
  | al i => cases hr
  | un => cases hr
/-- ahead of a call: what the callee is to keep; behind it: the caller's entries -/
theorem Lay.call0 (L : Lay K G F H es) : ∀ F' H' rk r w, Lay K H F' H' [⟨.own rk, r, w⟩] → Same F F' → (∀ a, F' a ≠ none → F a ≠ none ∨ H a = none) → Lay K G F' H' (es ++ [⟨.own rk, r, w⟩]) := fun F' H' rk r w L2 s new => by
  obtain ⟨c, q⟩ := L.col
  obtain ⟨c2, q2⟩ := L2.col
  refine ⟨L2.fh, L.gh.trans L2.gh, ⟨fun a => if H a = none then some es.length else c a, fun j e hj => ?_⟩, fun j i t v hj => ?_⟩
  · rcases getC hj with ⟨hl, h1⟩ | ⟨hl, rfl⟩
    · obtain ⟨al, e1, nd, hc⟩ := q j e h1
      refine ⟨al, e1.mono s fun a ha => ?_, nd, fun a ha => ?_⟩
      · obtain ⟨⟨xs, hx⟩, hf⟩ := e1.there a ha
        refine ⟨by rw [hx]; exact L2.gh _ _ hx, ?_⟩
        apply Classical.byContradiction
        intro hn
        rcases new a hn with z | z
        · exact z hf
        · rw [hx] at z; cases z
      · obtain ⟨⟨xs, hx⟩, hf⟩ := e1.there a ha
        have : ¬ H a = none := by rw [hx]; exact fun z => by cases z
        simp only [if_neg this]
        exact hc a ha
    · obtain ⟨al, e1, nd, hc⟩ := q2 0 ⟨.own rk, r, w⟩ rfl
      refine ⟨al, e1, nd, fun a ha => ?_⟩
      have hn := (hc a ha).2
      simp only [if_pos hn]
      exact ⟨by rw [hl], L.gh.free hn⟩
  · rcases getC hj with ⟨hl, h1⟩ | ⟨hl, h1⟩
    · obtain ⟨hij, k, h2, h3⟩ := L.ali j i t v h1
      exact ⟨hij, k, getL _ h2, h3⟩
    · cases h1
theorem Lay.callIo {d i : Nat} {k : Kd} {t : T} {v : V} (L : Lay K G F H es) (h : es[i]? = some ⟨k, t, v⟩) (hk : k = .own d ∨ k = .io d) (na : NoAl es i) :
    ∃ G', Same G G' ∧ Same G' H ∧ Same F G' ∧ Lay K G' F H [⟨.io d, t, v⟩] ∧ (∀ j e, j ≠ i → es[j]? = some e → e.k.reads = true → Bor K G' F e.t e.v) ∧
      ∀ F' H' t' rk r w, Lay K G' F' H' [⟨.io d, t', v⟩, ⟨.own rk, r, w⟩] → Same F F' → (∀ a, F' a ≠ none → F a ≠ none ∨ G' a = none) → (∀ a, F' a ≠ none → F a ≠ none ∨ G a = none) ∧ Lay K G F' H' (es.set i ⟨k, t', v⟩ ++ [⟨.own rk, r, w⟩]) := by
  obtain ⟨c, q⟩ := L.col
  obtain ⟨al, r0, nd0, hc0⟩ := q i _ h
  have r1 : OwnR K F H d t v al := by rcases hk with rfl | rfl <;> exact r0
  have hil := lt_of_get h
  have sG : Same G (fun a => if a ∈ al then none else H a) := fun a o e => by
    have : a ∉ al := fun z => by rw [(hc0 a z).2] at e; cases e
    simp only [if_neg this]
    exact L.gh a o e
  have sF : Same F (fun a => if a ∈ al then none else H a) := fun a o e => by
    have : a ∉ al := fun z => by rw [OwnR.none_at d r1 a z] at e; cases e
    simp only [if_neg this]
    exact L.fh a o e
  have sH : Same (fun a => if a ∈ al then none else H a) H := fun a o e => by
    by_cases z : a ∈ al
    · simp only [if_pos z] at e; cases e
    · simp only [if_neg z] at e; exact e
  have apart : ∀ j e al2, j ≠ i → es[j]? = some e → EntR K G F H e.k e.t e.v al2 → (∀ a ∈ al2, c a = some j) → ∀ a ∈ al2, a ∉ al := fun j e al2 hj he hr hcc a ha z => by
    have e1 := (hc0 a z).1
    rw [hcc a ha] at e1
    injection e1 with e1
    exact hj e1
  refine ⟨_, sG, sH, sF, ⟨L.fh, sH, ⟨fun _ => some 0, fun j e hj => ?_⟩, fun j i' t' v' hj => ?_⟩, fun j e hj he hr => ?_, fun F' H' t' rk r w L2 s new => ⟨fun a ha => ?_, ?_⟩⟩
  · cases j with
    | zero =>
      cases hj
      exact ⟨al, r1, nd0, fun a ha => ⟨rfl, by simp only [if_pos ha]⟩⟩
    | succ j => cases hj
  · cases j with
    | zero => cases hj
    | succ j => cases hj
  · obtain ⟨al2, e1, nd2, hc2⟩ := q j e he
    refine e1.bor hr sF sG fun a ha => ?_
    have := apart j e al2 hj he e1 (fun a ha => (hc2 a ha).1) a ha
    simp only [if_neg this]
  · rcases new a ha with z | z
    · exact .inl z
    · by_cases hm : a ∈ al
      · exact .inr (hc0 a hm).2
      · simp only [if_neg hm] at z
        exact .inr (L.gh.free z)
  · obtain ⟨c2, q2⟩ := L2.col
    refine ⟨L2.fh, sG.trans L2.gh, ⟨fun a => if (if a ∈ al then none else H a) = none then (if c2 a = some 0 then some i else some es.length) else c a, fun j e hj => ?_⟩, fun j i' t2 v2 hj => ?_⟩
    · rcases getC hj with ⟨hl, h1⟩ | ⟨hl, rfl⟩
      · rcases getS h1 with ⟨rfl, _, rfl⟩ | ⟨hne, h1⟩
        · obtain ⟨al', e1, nd', hc'⟩ := q2 0 ⟨.io d, t', v⟩ rfl
          refine ⟨al', by rcases hk with rfl | rfl <;> exact e1, nd', fun a ha => ?_⟩
          obtain ⟨e2, e3⟩ := hc' a ha
          simp only [if_pos e3, if_pos e2]
          exact ⟨trivial, sG.free e3⟩
        · obtain ⟨al2, e1, nd2, hc2⟩ := q j e h1
          have ap := apart j e al2 hne h1 e1 fun a ha => (hc2 a ha).1
          refine ⟨al2, e1.mono s fun a ha => ?_, nd2, fun a ha => ?_⟩
          · obtain ⟨⟨xs, hx⟩, hf⟩ := e1.there a ha
            have hg : (if a ∈ al then none else H a) = some (.lst xs) := by rw [if_neg (ap a ha)]; exact hx
            refine ⟨by rw [hx]; exact L2.gh _ _ hg, ?_⟩
            apply Classical.byContradiction
            intro hn
            rcases new a hn with z | z
            · exact z hf
            · rw [hg] at z; cases z
          · obtain ⟨⟨xs, hx⟩, hf⟩ := e1.there a ha
            have hg : (if a ∈ al then none else H a) = some (.lst xs) := by rw [if_neg (ap a ha)]; exact hx
            have : ¬ (if a ∈ al then none else H a) = none := by rw [hg]; exact fun z => by cases z
            simp only [if_neg this]
            exact hc2 a ha
      · obtain ⟨al', e1, nd', hc'⟩ := q2 1 ⟨.own rk, r, w⟩ rfl
        refine ⟨al', e1, nd', fun a ha => ?_⟩
        obtain ⟨e2, e3⟩ := hc' a ha
        have : ¬ c2 a = some 0 := by rw [e2]; exact fun z => by cases z
        simp only [if_pos e3, if_neg this]
        exact ⟨by rw [hl, List.length_set], sG.free e3⟩
    · rcases getC hj with ⟨hl, h1⟩ | ⟨hl, h1⟩
      · rcases getS h1 with ⟨rfl, _, h2⟩ | ⟨hne, h2⟩
        · have h5 := congrArg Ent.k h2
          rcases hk with rfl | rfl <;> cases h5
        · obtain ⟨hij, k', h3, h4⟩ := L.ali j i' t2 v2 h2
          refine ⟨hij, k', getL _ (getS_ne ?_ h3), h4⟩
          rintro rfl
          exact na j t2 v2 h2
      · cases h1
end
end Pv
end

section
set_option Elab.async false
set_option linter.all false
set_option maxRecDepth 100000
/-! PvR: the rules of calls; a def by its body. -/
namespace Pv
open PySem PySem.Spec PyProof.Rows L2

/-- a def's parameters' kinds, how deep what it gives back is new -/
structure Sig where
  pk : List Kd
  rk : Nat
def aEnts : List Kd → List T → List V → List Ent
  | k :: ks, t :: ts, v :: vs => ⟨k, t, v⟩ :: aEnts ks ts vs
  | _, _, _ => []
/-- what lies there behind a call -/
def EndL (K : PySem.W.Frag) (G F' H' : Hp) (s : Sig) (vs : List V) (out : Option T) (r : T) (v : V) : Prop := match s.pk, vs, out with
  | .io d :: _, v0 :: _, some t' => Lay K G F' H' [⟨.io d, t', v0⟩, ⟨.own s.rk, r, v⟩]
  | .io _ :: _, _, _ => False
  | _, _, _ => Lay K G F' H' [⟨.own s.rk, r, v⟩]
/-- a def's promise -/
def spF (K : PySem.W.Frag) (tbl : List Fn) (sig : List Sig) (n f : Nat) : Sp := fun vs H Q _ => ∃ s F G ts r out, sig[f]? = some s ∧ vs.length = s.pk.length ∧ ts.length = s.pk.length ∧ Lay K G F H (aEnts s.pk ts vs) ∧ callN tbl n f ts = some (r, out) ∧
  ∀ v F' H', EndL K G F' H' s vs out r v → Same F F' → (∀ a, F' a ≠ none → F a ≠ none ∨ G a = none) → Q v H'

section
variable {A : Act} {kd : List Kd} {X : Cx}
inductive KAs (kd : List Kd) : List Kd → List Ir → List T → List Ent → Prop
  | nil : KAs kd [] [] [] []
  | val {pks : List Kd} {x : Ir} {xs : List Ir} {t : T} {ts : List T} {v : V} {es : List Ent} : KAs kd pks xs ts es → KAs kd (.own 0 :: pks) (x :: xs) (t :: ts) (⟨.own 0, t, v⟩ :: es)
  | bor {pks : List Kd} {x : Ir} {xs : List Ir} {t : T} {ts : List T} {k : Kd} {v : V} {es : List Ent} : KR kd x k → rdK kd x = true → KAs kd pks xs ts es → KAs kd (.bor :: pks) (x :: xs) (t :: ts) (⟨k, t, v⟩ :: es)
  | scr {pks : List Kd} {i : Nat} {xs : List Ir} {t : T} {ts : List T} {v : V} {es : List Ent} : kd[i]? = some .scr → KAs kd pks xs ts es → KAs kd (.scr :: pks) (.nm i :: xs) (t :: ts) (⟨.al i, t, v⟩ :: es)
def tKs (A : Act) (kd pk : List Kd) (xs : List Ir) : TA := fun σ H Q => ∃ F env tm ts env', SR A kd F H env σ tm ∧ NoTs A xs tm ∧ evEs A.C xs env = some (ts, env') ∧ ∀ es F' H', KAs kd pk xs ts es → SR A kd F' H' env' σ (tm ++ es) → Same F F' → Q (es.map (·.v)) H'
theorem k_nil : PA X [] (tKs A kd [] []) := PA.imp pa_nil fun σ H Q ⟨F, env, tm, ts, env', R, n, ev, q⟩ => by
  have ev : some (([] : List T), env) = some (ts, env') := ev
  cases ev
  exact q [] F H .nil (by rw [List.append_nil]; exact R) (Same.refl F)
theorem k_val {pk : List Kd} {x : Ir} {xs : List Ir} {e : Expr} {es : List Expr} (he : PE X e (tF A kd 0 x)) (hr : PA X es (tKs A kd pk xs)) (hs : starEach (e :: es) X.env = (false, eval e X.env) :: starEach es X.env) : PA X (e :: es) (tKs A kd (.own 0 :: pk) (x :: xs)) :=
  PA.imp (pa_cons he hr hs) fun σ H Q ⟨F, env, tm, us, env', R, n, ev, q⟩ => by
    obtain ⟨t, env1, ts, h1, h2, rfl⟩ := evEs_cons ev
    refine ⟨F, env, tm, t, env1, R, NoT.of n, h1, fun v F1 H1 R1 s1 => ?_⟩
    refine ⟨F1, env1, tm ++ [⟨.own 0, t, v⟩], ts, env', R1, fun e he i z => ?_, h2, fun es' F2 H2 ks R2 s2 => ?_⟩
    · rcases List.mem_append.mp he with he | he
      · exact NoTs.tail n e he i z
      · have : e = ⟨.own 0, t, v⟩ := by simpa using he
        subst this
        cases z
    · exact q (⟨.own 0, t, v⟩ :: es') F2 H2 (.val ks) (by simpa using R2) (s1.trans s2)
theorem k_bor {pk : List Kd} {x : Ir} {xs : List Ir} {e : Expr} {es : List Expr} (he : PE X e (tR A kd x)) (rd : rdK kd x = true) (st : stK A.io kd x xs = true) (hr : PA X es (tKs A kd pk xs)) (hs : starEach (e :: es) X.env = (false, eval e X.env) :: starEach es X.env) : PA X (e :: es) (tKs A kd (.bor :: pk) (x :: xs)) :=
  PA.imp (pa_cons he hr hs) fun σ H Q ⟨F, env, tm, us, env', R, n, ev, q⟩ => by
    obtain ⟨t, env1, ts, h1, h2, rfl⟩ := evEs_cons ev
    refine ⟨F, env, tm, t, env1, R, NoT.of n, h1, fun k v F1 H1 kr R1 s1 => ?_⟩
    refine ⟨F1, env1, tm ++ [⟨k, t, v⟩], ts, env', R1, NoTs.on (NoTs.tail n) kr st, h2, fun es' F2 H2 ks R2 s2 => ?_⟩
    exact q (⟨k, t, v⟩ :: es') F2 H2 (.bor kr rd ks) (by simpa using R2) (s1.trans s2)
theorem k_scr {pk : List Kd} {i : Nat} {xs : List Ir} {x : Str} {p : Pos} {es : List Expr} (hN : X.N[i]? = some x) (hv : Vis X.env.scope x) (hd : (x == ("__debug__" : Str)) = false) (hcd : (x == ("__classdict__" : Str)) = false) (hk : kd[i]? = some .scr) (st : stK A.io kd (.nm i) xs = true) (hr : PA X es (tKs A kd pk xs)) (hs : starEach (.Name x p :: es) X.env = (false, eval (.Name x p) X.env) :: starEach es X.env) : PA X (.Name x p :: es) (tKs A kd (.scr :: pk) (.nm i :: xs)) :=
  PA.imp (pa_cons (pe_var (i := i) hN hv hd hcd) hr hs) fun σ H Q ⟨F, env, tm, us, env', R, n, ev, q⟩ => by
    obtain ⟨t, env1, ts, h1, h2, rfl⟩ := evEs_cons ev
    obtain ⟨h3, rfl⟩ := evE_nm h1
    obtain ⟨k, v, g1, g2, g3, g4⟩ := R.slot h3
    refine ⟨v, g2, F, env1, tm ++ [⟨.al i, t, v⟩], ts, env', R.pushes (fun _ h => .inl h) (R.lay.pushA g3 g4) (fun j z => by cases z; exact lt_of_get g2), NoTs.on (x := .nm i) (NoTs.tail n) (.inr ⟨i, rfl, rfl, by rw [hk]; exact fun z => by cases z⟩) st, h2, fun es' F2 H2 ks R2 s2 => ?_⟩
    exact q (⟨.al i, t, v⟩ :: es') F2 H2 (.scr hk ks) (by simpa using R2) s2
theorem KAs.len {pk : List Kd} {xs : List Ir} {ts : List T} {es : List Ent} (h : KAs kd pk xs ts es) : ts.length = pk.length ∧ es.length = pk.length := by
  induction h with
  | nil => exact ⟨rfl, rfl⟩
  | val _ ih => exact ⟨congrArg (· + 1) ih.1, congrArg (· + 1) ih.2⟩
  | bor _ _ _ ih => exact ⟨congrArg (· + 1) ih.1, congrArg (· + 1) ih.2⟩
  | scr _ _ ih => exact ⟨congrArg (· + 1) ih.1, congrArg (· + 1) ih.2⟩
/-- an alias among what is just reckoned: the entry of its name -/
theorem SR.alias {F H : Hp} {env : Env} {σ : L2.St} {tm : List Ent} {j i : Nat} {t : T} {v : V} (R : SR A kd F H env σ tm) (h : tm[j]? = some ⟨.al i, t, v⟩) : ∃ k, i < σ.length ∧ (slotsOf kd env σ)[i]? = some ⟨k, t, v⟩ ∧ kd[i]? = some k := by
  have h1 : (slotsOf kd env σ ++ tm)[(slotsOf kd env σ).length + j]? = some ⟨.al i, t, v⟩ := by
    rw [List.getElem?_append_right (by omega), show (slotsOf kd env σ).length + j - (slotsOf kd env σ).length = j by omega]
    exact h
  obtain ⟨_, k', h2, h3⟩ := R.lay.ali _ i t v h1
  have hi := R.als _ (List.mem_of_getElem? h) i rfl
  rw [List.getElem?_append_left (by rw [R.slen]; exact hi)] at h2
  rcases slotsOf_inv h2 with e | ⟨e, _, _⟩
  · have e := congrArg Ent.k e
    have e : k' = .un := e
    subst e
    cases h3
  · exact ⟨k', hi, h2, e⟩
/-- the callee's entries -/
theorem KAs.lay {F H G' : Hp} {env : Env} {σ : L2.St} {pk : List Kd} {xs : List Ir} {ts : List T} {es : List Ent} (h : KAs kd pk xs ts es) (ok : Nat → Prop)
    (hb : ∀ i e, ok i → (slotsOf kd env σ)[i]? = some e → e.k.reads = true → Bor A.K G' F e.t e.v) (s : Same F G') (sg : Same A.G G') : ∀ {tm pre : List Ent}, SR A kd F H env σ (tm ++ es) → (∀ i, Ir.nm i ∈ xs → ok i) → Lay A.K G' F H pre → Lay A.K G' F H (pre ++ aEnts pk ts (es.map (·.v))) := by
  induction h with
  | nil => intro tm pre R hx L; show Lay A.K G' F H (pre ++ []); rw [List.append_nil]; exact L
  | @val pks x xs t ts v es ks ih =>
    intro tm pre R hx L
    have R1 : SR A kd F H env σ ((tm ++ [⟨.own 0, t, v⟩]) ++ es) := by simpa using R
    have L1 := L.pushV (R1.pops.rep last_get)
    have := ih R1 (fun i hi => hx i (List.mem_cons_of_mem _ hi)) L1
    show Lay A.K G' F H (pre ++ (⟨.own 0, t, v⟩ :: aEnts pks ts (es.map (·.v))))
    simpa using this
  | @bor pks x xs t ts k v es kr rd ks ih =>
    intro tm pre R hx L
    have R1 : SR A kd F H env σ ((tm ++ [⟨k, t, v⟩]) ++ es) := by simpa using R
    have hb' : Bor A.K G' F t v := by
      rcases kr with rfl | ⟨i, rfl, rfl, _⟩
      · exact Bor.of (R1.pops.rep last_get) s
      · obtain ⟨k', h1, h2, h3⟩ := R1.pops.alias last_get
        refine hb i _ (hx i List.mem_cons_self) h2 ?_
        have rd : (match kd[i]? with | some k => k.reads | none => false) = true := rd
        rw [h3] at rd; exact rd
    have L1 := L.push (k := .bor) (t := t) (v := v) ⟨rfl, hb'⟩ fun _ z => by cases z
    have := ih R1 (fun i hi => hx i (List.mem_cons_of_mem _ hi)) L1
    show Lay A.K G' F H (pre ++ (⟨.bor, t, v⟩ :: aEnts pks ts (es.map (·.v))))
    simpa using this
  | @scr pks i xs t ts v es hk ks ih =>
    intro tm pre R hx L
    have R1 : SR A kd F H env σ ((tm ++ [⟨.al i, t, v⟩]) ++ es) := by simpa using R
    obtain ⟨k', h1, h2, h3⟩ := R1.pops.alias last_get
    rw [hk] at h3
    cases h3
    have h4 : (slotsOf kd env σ ++ tm)[i]? = some ⟨.scr, t, v⟩ := by
      rw [List.getElem?_append_left (by rw [R.slen]; exact h1)]; exact h2
    obtain ⟨al, e1⟩ := R1.pops.pops.lay.ent h4
    obtain ⟨_, a, ns, e2, e3, e4⟩ := (show al = [] ∧ ∃ (a : Addr) (ns : List Int), t = .lst (ns.map T.int) ∧ v = .ref a ∧ SqL A.K A.G a (ns.map V.int) from e1)
    have L1 := L.push (k := .scr) (t := t) (v := v) ⟨rfl, a, ns, e2, e3, sg.seq e4⟩ fun _ z => by cases z
    have := ih R1 (fun j hj => hx j (List.mem_cons_of_mem _ hj)) L1
    show Lay A.K G' F H (pre ++ (⟨.scr, t, v⟩ :: aEnts pks ts (es.map (·.v))))
    simpa using this

/-! ### f(..) -/
theorem evE_call0 {C : Cal} {f : Nat} {as : List Ir} {env env' : Env} {t : T} (h : evE C (.call f false as) env = some (t, env')) : ∃ ts out, evEs C as env = some (ts, env') ∧ C f ts = some (t, out) := by
  unfold evE at h
  obtain ⟨⟨ts, e1⟩, h1, h⟩ := bind_some h
  obtain ⟨⟨r, out⟩, h2, h⟩ := bind_some h
  cases h
  exact ⟨ts, out, h1, h2⟩
theorem evE_call1 {C : Cal} {f i : Nat} {as : List Ir} {env env' : Env} {t : T} (h : evE C (.call f true (.nm i :: as)) env = some (t, env')) : ∃ t0 ts env1 u u', getV env i = some t0 ∧ evEs C as env = some (ts, env1) ∧ getV env1 i = some u ∧ C f (u :: ts) = some (t, some u') ∧ env' = env1.set i (some u') := by
  unfold evE at h
  obtain ⟨t0, h0, h⟩ := bind_some h
  obtain ⟨⟨ts, e1⟩, h1, h⟩ := bind_some h
  obtain ⟨u, h2, h⟩ := bind_some h
  obtain ⟨⟨r, out⟩, h3, h⟩ := bind_some h
  obtain ⟨u', h4, h⟩ := bind_some h
  have h4 : out = some u' := h4
  subst h4
  cases h
  exact ⟨t0, ts, e1, u, u', h0, h1, h2, h3, rfl⟩
def noIo : List Kd → Bool
  | .io _ :: _ => false
  | _ => true
theorem EndL.plain {K : PySem.W.Frag} {G F H : Hp} {s : Sig} {vs : List V} {out : Option T} {r : T} {v : V} (hn : noIo s.pk = true) (h : EndL K G F H s vs out r v) : Lay K G F H [⟨.own s.rk, r, v⟩] := by
  obtain ⟨pk, rk⟩ := s
  unfold EndL at h
  split at h
  · rename_i e
    have e : pk = _ := e
    subst e
    cases hn
  · exact h.elim
  · exact h
theorem call0_imp {tbl : List Fn} {sig : List Sig} {n f : Nat} {s : Sig} {as : List Ir} (hK : A.K = X.K) (hC : A.C = callN tbl n) (hs : sig[f]? = some s) (hn : noIo s.pk = true) {E : XK} :
    ∀ σ H Q, tF A kd s.rk (.call f false as) σ H Q → tCall (spF X.K tbl sig n f) [] E (tKs A kd s.pk as) σ H Q := fun σ H Q ⟨F, env, tm, t, env', R, nn, ev, q⟩ => by
  obtain ⟨ts, out, h1, h2⟩ := evE_call0 ev
  have n1 : NoTs A as tm := fun e he i z => (Bool.or_eq_false_iff.mp (show (tchEs A.io i as || tchA i false as) = false from nn e he i z)).1
  refine ⟨F, env, tm, ts, env', R, n1, h1, fun es F1 H1 ks R1 s1 => ?_⟩
  show spF X.K tbl sig n f (es.map (·.v) ++ []) H1 Q E
  rw [← hK, List.append_nil]
  obtain ⟨l1, l2⟩ := ks.len
  have L : Lay A.K H1 F1 H1 ([] ++ aEnts s.pk ts (es.map (·.v))) := ks.lay (fun _ => True) (fun i e _ he hr => by
      have he' : (slotsOf kd env' σ ++ (tm ++ es))[i]? = some e := by
        rw [List.getElem?_append_left (lt_of_get he)]; exact he
      obtain ⟨al, e1⟩ := R1.lay.ent he'
      exact e1.bor hr R1.lay.fh R1.lay.gh fun _ _ => rfl) R1.lay.fh R1.lay.gh R1 (fun _ _ => trivial) ⟨R1.lay.fh, Same.refl H1, ⟨fun _ => none, fun j e hj => by simp at hj⟩, fun j i t v hj => by simp at hj⟩
  refine ⟨s, F1, H1, ts, t, out, hs, by rw [List.length_map, l2], l1, L, by rw [← hC]; exact h2, fun v F' H' hE sF new => ?_⟩
  have R2 := R1.pops
  have L2 := R2.lay.call0 F' H' s.rk t v (hE.plain hn) sF new
  exact q v F' H' (R2.pushes (fun a ha => by
    rcases new a ha with z | z
    · exact .inl z
    · exact .inr (R2.lay.gh.free z)) L2) (s1.trans sF)
theorem call1_imp {tbl : List Fn} {sig : List Sig} {n f i d : Nat} {s : Sig} {pks : List Kd} {as : List Ir} (hK : A.K = X.K) (hC : A.C = callN tbl n) (hs : sig[f]? = some s) (hp : s.pk = .io d :: pks) (hk : kd[i]? = some (.own d) ∨ kd[i]? = some (.io d)) (hna : ∀ j, Ir.nm j ∈ as → j ≠ i) {E : XK} :
    ∀ σ H Q, tF A kd s.rk (.call f true (.nm i :: as)) σ H Q → tCall (spF X.K tbl sig n f) [] E (tCons (tVar i) (tKs A kd pks as)) σ H Q := fun σ H Q ⟨F, env, tm, t, env', R, nn, ev, q⟩ => by
  obtain ⟨t0, ts, env1, u, u', h0, h1, h2, h3, rfl⟩ := evE_call1 ev
  have n0 : ∀ e ∈ tm, ∀ j, e.k = .al j → (tchEs A.io j (.nm i :: as) || j == i) = false := fun e he j z => nn e he j z
  have n1 : NoTs A as tm := fun e he j z => by
    have := (Bool.or_eq_false_iff.mp (n0 e he j z)).1
    exact (Bool.or_eq_false_iff.mp (show (false || tchEs A.io j as) = false from this)).2
  have na : ∀ e ∈ tm, e.k ≠ .al i := fun e he z => by
    have := (Bool.or_eq_false_iff.mp (n0 e he i z)).2
    simp at this
  obtain ⟨k, v0, g1, g2, g3, _⟩ := R.slot h0
  refine ⟨v0, g2, F, env, tm, ts, env1, R, n1, h1, fun es F1 H1 ks R1 s1 => ?_⟩
  show spF X.K tbl sig n f ((v0 :: es.map (·.v)) ++ []) H1 Q E
  rw [← hK, List.append_nil]
  obtain ⟨l1, l2⟩ := ks.len
  obtain ⟨k1, v1, e1, e2, e3, _⟩ := R1.slot h2
  rw [g2] at e2
  cases e2
  have hkk : k1 = .own d ∨ k1 = .io d := by
    rw [e1] at hk
    rcases hk with z | z
    · exact .inl (Option.some.inj z)
    · exact .inr (Option.some.inj z)
  have R2 := R1.pops
  have hil : i < (slotsOf kd env1 σ).length := by rw [R1.slen]; exact lt_of_get g2
  have e3' : (slotsOf kd env1 σ ++ tm)[i]? = some ⟨k1, u, v0⟩ := by
    rw [List.getElem?_append_left hil] at e3 ⊢; exact e3
  obtain ⟨G', c1, c2, c3, c4, c5, c6⟩ := R2.lay.callIo e3' hkk (R2.noAl na)
  have L : Lay A.K G' F1 H1 ([⟨.io d, u, v0⟩] ++ aEnts pks ts (es.map (·.v))) := ks.lay (fun j => j ≠ i) (fun j e hj he hr => by
      refine c5 j e hj ?_ hr
      rw [List.getElem?_append_left (lt_of_get he)]; exact he) c3 c1 R1 hna c4
  refine ⟨s, F1, G', u :: ts, t, some u', hs, ?_, ?_, ?_, by rw [← hC]; exact h3, fun v F' H' hE sF new => ?_⟩
  · rw [hp]; simp [l2]
  · rw [hp]; simp [l1]
  · rw [hp]; exact L
  · have hE : Lay A.K G' F' H' [⟨.io d, u', v0⟩, ⟨.own s.rk, t, v⟩] := by
      unfold EndL at hE
      rw [hp] at hE
      exact hE
    obtain ⟨c7, c8⟩ := c6 F' H' u' s.rk t v hE sF new
    have e4 : (slotsOf kd env1 σ ++ tm).set i ⟨k1, u', v0⟩ = slotsOf kd (env1.set i (some u')) σ ++ tm := by
      rw [List.set_append_left _ _ hil, ← slotsOf_set k1 u' v0, set_same e1, set_same g2]
    rw [e4] at c8
    refine q v F' H' ⟨by rw [List.length_set]; exact R1.le, R1.lk, R1.nal, fun j t2 hj => ?_, by rw [← List.append_assoc]; exact c8, fun a ha => ?_, fun e he j z => ?_, R1.iov⟩ (s1.trans sF)
    · rcases getS hj with ⟨rfl, _, _⟩ | ⟨_, hj⟩
      · exact ⟨v0, g2⟩
      · exact R1.bnd j t2 hj
    · rcases c7 a ha with z | z
      · exact R1.gr a z
      · exact .inr z
    · rcases List.mem_append.mp he with he | he
      · exact R1.als e (List.mem_append_left _ he) j z
      · have : e = ⟨.own s.rk, t, v⟩ := by simpa using he
        subst this
        cases z

/-! ### a def by its body -/
theorem slotsOf_none : ∀ {kd : List Kd} {σ : L2.St} {m : Nat}, kd.length = m → σ.length = m → slotsOf kd (List.replicate m none) σ = List.replicate m ⟨.un, .non, .non⟩
  | [], [], 0, _, _ => rfl
  | k :: ks, s :: ss, m + 1, h1, h2 => by
    rw [List.replicate_succ, List.replicate_succ]
    show (⟨.un, .non, .non⟩ : Ent) :: slotsOf ks (List.replicate m none) ss = _
    rw [slotsOf_none (by simpa using h1) (by simpa using h2)]
  | [], _ :: _, 0, _, h => by simp at h
  | _ :: _, [], 0, h, _ => by simp at h
  | [], _, m + 1, h, _ => by simp at h
  | _ :: _, [], m + 1, _, h => by simp at h
  | k :: ks, s :: ss, 0, h, _ => by simp at h
theorem slotsOf_start : ∀ {pk kr : List Kd} {ts : List T} {vs : List V} {m : Nat}, ts.length = pk.length → vs.length = pk.length → kr.length = m → slotsOf (pk ++ kr) (ts.map some ++ List.replicate m none) (vs.map some ++ List.replicate m none) = aEnts pk ts vs ++ List.replicate m ⟨.un, .non, .non⟩
  | [], kr, [], [], m, _, _, h => by
    show slotsOf kr (List.replicate m none) (List.replicate m none) = [] ++ _
    rw [slotsOf_none h (by simp)]; rfl
  | k :: pk, kr, t :: ts, v :: vs, m, h1, h2, h => by
    show ⟨k, t, v⟩ :: slotsOf (pk ++ kr) (ts.map some ++ List.replicate m none) (vs.map some ++ List.replicate m none) = ⟨k, t, v⟩ :: (aEnts pk ts vs ++ _)
    rw [slotsOf_start (by simpa using h1) (by simpa using h2) h]
  | [], _, _ :: _, _, _, h, _, _ => by simp at h
  | [], _, [], _ :: _, _, _, h, _ => by simp at h
  | _ :: _, _, [], _, _, h, _, _ => by simp at h
  | _ :: _, _, _ :: _, [], _, _, h, _ => by simp at h
def ivOf (pk : List Kd) (vs : List V) : List (Option (Nat × V)) := match pk, vs with
  | .io d :: _, v :: _ => [some (d, v)]
  | _, _ => []
def pk1 : Kd → Bool
  | .own 0 => true
  | .bor => true
  | .scr => true
  | _ => false
def pk0 : Kd → Bool
  | .io _ => true
  | k => pk1 k
/-- kinds that parameters may have -/
def pkOk (pk : List Kd) : Bool := match pk with
  | [] => true
  | k :: ks => pk0 k && ks.all pk1
theorem pk1_nm {k : Kd} (h : pk1 k = true) : k.nm = true := by
  cases k <;> first | rfl | cases h
theorem pk0_nm {k : Kd} (h : pk0 k = true) : k.nm = true := by
  cases k <;> first | rfl | cases h
theorem pkOk_nm {pk : List Kd} (h : pkOk pk = true) : ∀ k ∈ pk, k.nm = true := by
  cases pk with
  | nil => intro k hk; cases hk
  | cons k0 ks =>
    obtain ⟨h1, h2⟩ := Bool.and_eq_true_iff.mp (show (pk0 k0 && ks.all pk1) = true from h)
    intro k hk
    rcases List.mem_cons.mp hk with rfl | hk
    · exact pk0_nm h1
    · exact pk1_nm (List.all_eq_true.mp h2 k hk)
theorem Lay.pushUn {K : PySem.W.Frag} {G F H : Hp} {es : List Ent} (L : Lay K G F H es) : ∀ m, Lay K G F H (es ++ List.replicate m ⟨.un, .non, .non⟩)
  | 0 => by rw [List.replicate_zero, List.append_nil]; exact L
  | m + 1 => by
    rw [List.replicate_succ', ← List.append_assoc]
    exact (L.pushUn m).push (k := .un) rfl fun _ z => by cases z
theorem SR.start {K : PySem.W.Frag} {G F H : Hp} {C : Cal} {io : Nat → Nat → Bool} {pk kr : List Kd} {ts : List T} {vs : List V} (m : Nat) (hkr : kr.length = m) (hnm : ∀ k ∈ kr, k.nm = true) (L : Lay K G F H (aEnts pk ts vs)) (h1 : ts.length = pk.length) (h2 : vs.length = pk.length) (ok : pkOk pk = true) :
    SR ⟨K, G, F, C, io, ivOf pk vs⟩ (pk ++ kr) F H (ts.map some ++ List.replicate m none) (vs.map some ++ List.replicate m none) [] := by
  refine ⟨by simp [h1, h2], by simp [h2, hkr], fun k hk => ?_, fun i t hi => ?_, ?_, fun a ha => .inl ha, fun e he => (by cases he), fun i d v h => ?_⟩
  · rcases List.mem_append.mp hk with hk | hk
    · exact pkOk_nm ok k hk
    · exact hnm k hk
  · by_cases hl : i < ts.length
    · have : i < vs.length := by omega
      refine ⟨vs[i], ?_⟩
      rw [List.getElem?_append_left (by simpa using this), List.getElem?_map, List.getElem?_eq_getElem this]
      rfl
    · rw [List.getElem?_append_right (by simpa using hl)] at hi
      have := List.mem_of_getElem? hi
      have := (List.mem_replicate.mp this).2
      cases this
  · rw [List.append_nil, slotsOf_start h1 h2 hkr]
    exact L.pushUn m
  · have h : (ivOf pk vs)[i]? = some (some (d, v)) := h
    unfold ivOf at h
    split at h
    · cases i with
      | zero =>
        simp at h
        obtain ⟨rfl, rfl⟩ := h
        exact ⟨rfl, rfl⟩
      | succ i => simp at h
    · simp at h
theorem Lay.two {K : PySem.W.Frag} {G F H : Hp} {e0 e : Ent} {es : List Ent} (L : Lay K G F H ((e0 :: es) ++ [e])) (h0 : ∀ i, e0.k ≠ .al i) (h1 : ∀ i, e.k ≠ .al i) : Lay K G F H [e0, e] := by
  obtain ⟨c, q⟩ := L.col
  refine ⟨L.fh, L.gh, ⟨fun a => if c a = some 0 then some 0 else some 1, fun j e' hj => ?_⟩, fun j i t v hj => ?_⟩
  · match j, hj with
    | 0, hj =>
      cases hj
      obtain ⟨al, r, nd, hc⟩ := q 0 e0 rfl
      exact ⟨al, r, nd, fun a ha => ⟨by simp only [if_pos (hc a ha).1], (hc a ha).2⟩⟩
    | 1, hj =>
      cases hj
      obtain ⟨al, r, nd, hc⟩ := q (es.length + 1) e (by simp)
      refine ⟨al, r, nd, fun a ha => ⟨?_, (hc a ha).2⟩⟩
      have : ¬ c a = some 0 := by rw [(hc a ha).1]; intro z; cases z
      simp only [if_neg this]
    | j + 2, hj => cases hj
  · match j, hj with
    | 0, hj =>
      have : e0 = ⟨.al i, t, v⟩ := by simpa using hj
      exact absurd (by rw [this]) (h0 i)
    | 1, hj =>
      have : e = ⟨.al i, t, v⟩ := by simpa using hj
      exact absurd (by rw [this]) (h1 i)
    | j + 2, hj => cases hj
theorem Lay.last {K : PySem.W.Frag} {G F H : Hp} {e : Ent} {es : List Ent} (L : Lay K G F H (es ++ [e])) (h1 : ∀ i, e.k ≠ .al i) : Lay K G F H [e] := by
  obtain ⟨c, q⟩ := L.col
  refine ⟨L.fh, L.gh, ⟨fun a => some 0, fun j e' hj => ?_⟩, fun j i t v hj => ?_⟩
  · match j, hj with
    | 0, hj =>
      cases hj
      obtain ⟨al, r, nd, hc⟩ := q es.length e (by simp)
      exact ⟨al, r, nd, fun a ha => ⟨rfl, (hc a ha).2⟩⟩
    | j + 1, hj => cases hj
  · match j, hj with
    | 0, hj =>
      have : e = ⟨.al i, t, v⟩ := by simpa using hj
      exact absurd (by rw [this]) (h1 i)
    | j + 1, hj => cases hj
def ioB : List Kd → Bool
  | .io _ :: _ => true
  | _ => false
theorem ioB_of {pk : List Kd} (h : ioB pk = true) : ∃ d tl, pk = .io d :: tl := by
  unfold ioB at h
  split at h
  · exact ⟨_, _, rfl⟩
  · cases h
theorem EndL.of_plain {K : PySem.W.Frag} {G F H : Hp} {s : Sig} {vs : List V} {out : Option T} {r : T} {v : V} (hn : ioB s.pk = false) (h : Lay K G F H [⟨.own s.rk, r, v⟩]) : EndL K G F H s vs out r v := by
  obtain ⟨pk, rk⟩ := s
  unfold EndL
  split
  · rename_i e
    have e : pk = _ := e
    subst e
    cases hn
  · rename_i e _
    have e : pk = _ := e
    subst e
    cases hn
  · exact h
theorem RetR.endL {K : PySem.W.Frag} {G F : Hp} {C : Cal} {io : Nat → Nat → Bool} {s : Sig} {vs : List V} {env' : Env} {t : T} {v : V} {H' : Hp} {out : Option T} (h : RetR ⟨K, G, F, C, io, ivOf s.pk vs⟩ s.rk F env' t v H') (ho : ioB s.pk = true → out = getV env' 0) (ho2 : ioB s.pk = true → ∃ u, out = some u) (hl : vs.length = s.pk.length) :
    ∃ F', EndL K G F' H' s vs out t v ∧ Same F F' ∧ ∀ a, F' a ≠ none → F a ≠ none ∨ G a = none := by
  obtain ⟨kd', F', env'', σ', R, sF, q⟩ := h
  refine ⟨F', ?_, sF, R.gr⟩
  obtain ⟨pk, rk⟩ := s
  have L := R.lay
  cases hio : ioB pk with
  | true =>
    obtain ⟨d, tl, rfl⟩ := ioB_of hio
    obtain ⟨t', rfl⟩ := ho2 hio
    cases vs with
    | nil => simp at hl
    | cons v0 tl2 =>
      have hiv : (ivOf (.io d :: tl) (v0 :: tl2))[0]? = some (some (d, v0)) := rfl
      obtain ⟨g1, g2⟩ := R.iov 0 d v0 hiv
      have g3 := q 0 (d, v0) hiv
      have g4 : getV env'' 0 = some t' := by
        rw [g3]
        exact (ho hio).symm
      have g5 := slotsOf_get g2 (getV_some g4) g1
      cases hsl : slotsOf kd' env'' σ' with
      | nil => rw [hsl] at g5; simp at g5
      | cons e0 es =>
        rw [hsl] at g5 L
        have : e0 = ⟨.io d, t', v0⟩ := by simpa using g5
        subst this
        exact L.two (fun i z => by cases z) fun i z => by cases z
  | false => exact EndL.of_plain hio (L.last fun i z => by cases z)
theorem callN_succ {tbl : List Fn} {n f : Nat} {ts : List T} {r : T} {out : Option T} {d : Fn} (hd : tbl[f]? = some d) (h : callN tbl (n + 1) f ts = some (r, out)) :
    ts.length = d.np ∧ ∃ fl env', evB (callN tbl n) d.body (ts.map some ++ List.replicate (d.ns - d.np) none) = some (fl, env') ∧ (fl = .ret r ∨ (fl = .nx ∧ r = .non)) ∧ (d.io = true → out = getV env' 0 ∧ ∃ u, out = some u) := by
  unfold callN at h
  rw [hd] at h
  have h : (if ts.length = d.np then (do
      let (r, env) ← evB (callN tbl n) d.body (ts.map some ++ List.replicate (d.ns - d.np) none)
      let v ← endOf r
      if d.io then do
        let t ← getV env 0
        some (v, some t)
      else some (v, none)) else none) = some (r, out) := h
  by_cases hl : ts.length = d.np
  · rw [if_pos hl] at h
    refine ⟨hl, ?_⟩
    obtain ⟨⟨fl, env'⟩, h1, h⟩ := bind_some h
    obtain ⟨v, h2, h⟩ := bind_some h
    have h3 : (fl = .ret v ∨ (fl = .nx ∧ v = .non)) := by
      cases fl with
      | nx => cases h2; exact .inr ⟨rfl, rfl⟩
      | ret t => cases h2; exact .inl rfl
      | brk => cases h2
      | cont => cases h2
    have h : (if d.io = true then (do let t ← getV env' 0; some (v, some t)) else some (v, none)) = some (r, out) := h
    by_cases hi : d.io = true
    · rw [if_pos hi] at h
      obtain ⟨t, h4, h⟩ := bind_some h
      cases h
      exact ⟨fl, env', h1, h3, fun _ => ⟨h4.symm, t, rfl⟩⟩
    · rw [if_neg hi] at h
      cases h
      exact ⟨fl, env', h1, h3, fun z => absurd z hi⟩
  · rw [if_neg hl] at h; cases h
/-- the body's rule closes the def's promise -/
theorem body_ok {tbl : List Fn} {sig : List Sig} {n f : Nat} {d : Fn} {s : Sig} {io : Nat → Nat → Bool} {N : List Str} {ps : List Str} {sts : List Stmt} {kd' : List Kd} (hd : tbl[f]? = some d) (hs : sig[f]? = some s) (hN : d.ns = N.length) (hnp : d.np = s.pk.length) (hps : ps.length = s.pk.length) (hle : d.np ≤ d.ns) (hio : d.io = ioB s.pk) (ok : pkOk s.pk = true) {kr : List Kd} (hkr : kr.length = d.ns - d.np) (hnm : ∀ k ∈ kr, k.nm = true)
    (hb : ∀ A : Act, A.K = X.K → A.C = callN tbl n → A.io = io → PSs X sts (tB A s.rk (s.pk ++ kr) kd' none d.body)) {vs : List V} {H : Hp} {Q : VK} {E : XK} (h : spF X.K tbl sig (n + 1) f vs H Q E) :
    ∃ t, PSs X sts t ∧ t { nx := fun _ H' => Q .non H', rt := Q } (L2.start N vs) H := by
  obtain ⟨s', F, G, ts, r, out, e1, l1, l2, L, ev, q⟩ := h
  rw [hs] at e1
  cases e1
  obtain ⟨l3, fl, env', h1, h2, h3⟩ := callN_succ hd ev
  refine ⟨_, hb ⟨X.K, G, F, callN tbl n, io, ivOf s.pk vs⟩ rfl rfl rfl, F, _, fl, env', ?_, h1, ?_⟩
  · have := SR.start (C := callN tbl n) (io := io) (d.ns - d.np) hkr hnm L l2 l1 ok
    unfold L2.start
    rw [show N.length - vs.length = d.ns - d.np by rw [hN, l1, hnp]]
    exact this
  · have done : ∀ v H', RetR ⟨X.K, G, F, callN tbl n, io, ivOf s.pk vs⟩ s.rk F env' r v H' → Q v H' := fun v H' hr => by
      obtain ⟨F', a1, a2, a3⟩ := hr.endL (out := out) (fun z => (h3 (by rw [hio]; exact z)).1) (fun z => (h3 (by rw [hio]; exact z)).2) l1
      exact q v F' H' a1 a2 a3
    rcases h2 with rfl | ⟨rfl, rfl⟩
    · exact done
    · intro F' H' σ' R sF
      refine done .non H' ⟨_, F', env', σ', R.pushes (fun _ h => .inl h) (R.lay.pushN s.rk .non rfl), sF, fun _ _ _ => rfl⟩
end
end Pv
end

section
set_option Elab.async false
set_option linter.all false
set_option maxRecDepth 100000
/-! PvU: defs that run where nothing is being shown around (repr asks that), their calls, the law's end. -/
namespace Pv
open PySem PySem.Spec PyProof.Rows L2

section
variable {P : Program} {w : World} {K : PySem.W.Frag} {mg : Str → Option Value} {base : Heap}
/-- a def's promise, asked where the guards' list is empty -/
structure FnG (P : Program) (w : World) (K : PySem.W.Frag) (mg : Str → Option Value) (base : Heap) (n : Nat) (fa : Addr) (fd : FuncData) (ps : List Str) (sp : Sp) : Prop where
  size : ∀ {vs H Q E}, sp vs H Q E → vs.length = ps.length
  go : ∀ (B : Around) (up : List PySem.Env) (z : Shared) (H : Hp) (ar : Args) (us : List Value) (vs : List V) (Q : VK), B.guards = some [] → Room n B → Env0 P w K mg base B up z H → BindsTo z fd ar (ps.zip us) → Vals vs us → sp vs H Q E0 →
    codeAny (model P w) B (.call (.ref fa) ar) (fun r z' => ∃ u, r = .ok (.ret u) ∧ CE up P w H z Q u z') z
theorem guards_deeper {B : Around} {e : PySem.Env} : (B.deeper e).guards = B.guards := rfl
/-- by the body -/
theorem fnG_of {x qual : Str} {st : Stmt} {fa : Addr} {fd : FuncData} {N ps : List Str} {n : Nat} {sp : Sp} (F : L2.Fun K x qual st fa fd) (S : FnScope N ps (defScope st)) (size : ∀ {vs H Q E}, sp vs H Q E → vs.length = ps.length)
    (body : ∀ (cd : Value) (B : Around) (up : List PySem.Env) (z : Shared) (H : Hp) (vs : List V) (Q : VK), B.guards = some [] → Room n (B.deeper (envOfC qual (defScope st) z.heap.objs.size fa cd)) → sp vs H Q E0 →
      ∃ t, PSs (cxOf CX0 P w K mg base N qual (defScope st) fa cd B up z H E0).nox (defBody st) t ∧ t { nx := fun _ H' => Q .non H', rt := Q } (L2.start N vs) H) : FnG P w K mg base (n + 1) fa fd ps sp := by
  obtain ⟨oc, od, kV, doc, pm, an, cd, ct, osl, rfl, lk, hcd⟩ := F.ex
  refine ⟨size, fun B up z H ar us vs Q hg hr e0 hb rv h => ?_⟩
  have old : ∀ b o, base.get? b = some o → z.heap.get? b = some o := fun b o e => (e0.bs b o e).1
  have inK : K.In z.heap := e0.mod.kin.keeps old
  have kinds : ∀ y ∈ ps.zip us, (defScope st).names.lookup y.1 = some .local ∨ ((defScope st).names.lookup y.1 = some .cell ∧ ((cellsFrom (z.heap.objs.size + 1) (defScope st).names []).lookup y.1).isSome = true) := fun y hy => by
    have hm := S.par y.1 (List.of_mem_zip (a := y.1) (b := y.2) hy).1
    exact hm.imp id fun q => ⟨q, PySem.W.cellsFrom_some _ _ _ (.inl q)⟩
  refine codeAny_call_function hr.depth (inK _ _ lk) rfl S.co S.gen rfl (PySem.W.codeRec_of inK hcd) (hb _ _ _ _ (wpAny_newFunctionEnv_cells S.kind kinds fun env he z1 hx => ?_))
  subst he
  obtain ⟨t, ht, hq⟩ := body cd B up z H vs Q hg (hr.deeper _) h
  have I : Inv (cxOf CX0 P w K mg base N qual (defScope st) fa cd B up z H E0) [] (L2.start N vs) H z1 := inv_start S hr.hd e0 (size h) rv hx
  refine ⟨(e0.mod.nolimit.keeps old).keeps hx.toInCall.keep, codeAny_func (wpAny_mono (ht.run [] z1 (L2.start N vs) H _ (I.wish _) hq) (fun fl z2 hs => ?_) fun e z2 hs => False.elim hs)⟩
  cases fl with
  | next =>
    obtain ⟨σ2, H2, J, q⟩ := hs
    exact ⟨Value.none, rfl, V.non, H2, J.os, J.bare, J.base, J.hok, rfl, q⟩
  | ret u =>
    obtain ⟨v, σ2, H2, J, rvu, q⟩ := hs
    exact ⟨u, rfl, v, H2, J.os, J.bare, J.base, J.hok, rvu, q⟩
  | brk =>
    obtain ⟨_, _, _, q⟩ := hs
    cases q
  | cont =>
    obtain ⟨_, _, _, q⟩ := hs
    cases q
end

section
variable {X : Cx} {n : Nat} {fa : Addr} {fd : FuncData} {ps ks : List Str} {sp : Sp} {x : Str} {p pos : Pos} {e : Expr} {es : List Expr} {kws : List Keyword} {t tk : TA}
/-- the callee runs, its parameters bound to us -/
theorem go_fn {pins : List (Addr × Obj)} {σ : L2.St} {H : Hp} {s : Shared} {Q : VK} {us : List Value} {vs : List V} {ar : Args} (F : FnG X.prog X.w X.K X.mg X.base n fa fd ps sp) (hg : X.A.guards = some []) (hr : Room n X.A) (I : Inv X pins σ H s) (rv : Vals vs us) (hb : us.length = ps.length → BindsTo s fd ar (ps.zip us)) (h : sp vs H Q E0) :
    wpAny (model X.prog X.w) X.A (call (.ref fa) ar.pos ar.kw) (EP X pins σ Q) X.xe s := by
  have e1 : us.length = ps.length := by rw [← rv.length, F.size h]
  refine wpAny_call (codeAny_mono (F.go X.A X.stack s H ar us vs Q hg hr I.env0 (hb e1) rv h) fun r s' ⟨u, er, hc⟩ => ?_)
  subst er
  exact I.after hc
theorem g_call (F : FnG X.prog X.w X.K X.mg X.base n fa fd ps sp) (hg : X.A.guards = some []) (hr : Room n X.A) (gl : Gl X x) (hm : X.mg x = some (.ref fa)) (hk : PySem.W.keepIn X.K (.ref fa) = true) (hb : Binds X.K fd ps []) (ha : PA X (e :: es) t) (hdb : (x == ("__debug__" : Str)) = false)
    (he : starEach (e :: es) X.env = (false, eval e X.env) :: starEach es X.env) (hpl : (backTo pos (starEach es X.env)).any (·.1) = false) : PE X (.Call (.Name x p) (e :: es) [] pos) (tCall sp [] E0 t) :=
  ⟨fun pins s σ H Q I h => wpAny_Call_Name_kw (ld_glob I gl hm (PySem.W.callWith_K (h₀ := X.base) I.ok.mod.kin hk (thn (ha.run pos pins s σ H _ I h) fun us s1 ⟨vs, H1, I1, rv, q⟩ => ⟨I1.kIn, by
    refine go_fn (ar := ⟨us, []⟩) F hg hr I1 rv (fun hl => ?_) (by have q : sp (vs ++ []) H1 Q E0 := q; rwa [List.append_nil] at q)
    have := hb s1 us I1.kIn (by rw [List.append_nil]; exact hl)
    rwa [List.append_nil] at this⟩) he hpl) hdb)⟩
theorem g_call0 (F : FnG X.prog X.w X.K X.mg X.base n fa fd ps sp) (hg : X.A.guards = some []) (hr : Room n X.A) (gl : Gl X x) (hm : X.mg x = some (.ref fa)) (hk : PySem.W.keepIn X.K (.ref fa) = true) (hb : Binds X.K fd ps []) (hdb : (x == ("__debug__" : Str)) = false) :
    PE X (.Call (.Name x p) [] [] pos) (tCall sp [] E0 tNil) :=
  ⟨fun pins s σ H Q I h => wpAny_Call_Name_kw (ld_glob I gl hm (PySem.W.callWith_K0 I.kIn hk (go_fn (ar := ⟨[], []⟩) (us := []) F hg hr I .nil (fun hl => hb s [] I.kIn hl) h)) hdb)⟩
/-- with keywords; gV, g: how the values come to the parameters -/
theorem g_callK {g : List Value → List Value → List Value} {gV : List V → List V → List V} (F : FnG X.prog X.w X.K X.mg X.base n fa fd ps sp) (hg : X.A.guards = some []) (hr : Room n X.A) (gl : Gl X x) (hm : X.mg x = some (.ref fa)) (hk : PySem.W.keepIn X.K (.ref fa) = true) (hb : KBinds X.K fd ps ks g gV)
    (ha : PA X (e :: es) t) (hkw : PK X kws tk) (hall : (backToKw pos (keywordEach kws X.env)).all (·.1.isSome) = true) (hks : (backToKw pos (keywordEach kws X.env)).filterMap (·.1) = ks) (hdb : (x == ("__debug__" : Str)) = false) (he : starEach (e :: es) X.env = (false, eval e X.env) :: starEach es X.env)
    (hpl : ((backTo pos (starEach (e :: es) X.env)).any (·.1) || (backToKw pos (keywordEach kws X.env)).any (·.1.isNone)) = false) : PE X (.Call (.Name x p) (e :: es) kws pos) (tCallK sp gV E0 t tk) :=
  ⟨fun pins s σ H Q I h => wpAny_Call_Name_kw (ld_glob I gl hm (PySem.W.callWith_KW (h₀ := X.base) I.ok.mod.kin hk hall (thn (ha.run pos pins s σ H _ I h) fun us s1 ⟨vs, H1, I1, rv, q1⟩ =>
    thn (hkw.run pos pins s1 σ H1 _ I1 q1) fun ws s2 ⟨zs, H2, I2, rz, q2⟩ => ⟨I2.kIn, by
      rw [hks]
      exact go_fn (ar := ⟨us, ks.zip ws⟩) F hg hr I2 (hb.rel rv rz) (fun hl => hb.to s2 us ws I2.kIn hl) q2⟩) hpl he) hdb)⟩
theorem g_callK0 {g : List Value → List Value → List Value} {gV : List V → List V → List V} (F : FnG X.prog X.w X.K X.mg X.base n fa fd ps sp) (hg : X.A.guards = some []) (hr : Room n X.A) (gl : Gl X x) (hm : X.mg x = some (.ref fa)) (hk : PySem.W.keepIn X.K (.ref fa) = true) (hb : KBinds X.K fd ps ks g gV)
    (hkw : PK X kws tk) (hall : (backToKw pos (keywordEach kws X.env)).all (·.1.isSome) = true) (hks : (backToKw pos (keywordEach kws X.env)).filterMap (·.1) = ks) (hdb : (x == ("__debug__" : Str)) = false)
    (hpl : ((backTo pos (starEach [] X.env)).any (·.1) || (backToKw pos (keywordEach kws X.env)).any (·.1.isNone)) = false) : PE X (.Call (.Name x p) [] kws pos) (tCallK sp gV E0 tNil tk) :=
  ⟨fun pins s σ H Q I h => wpAny_Call_Name_kw (ld_glob I gl hm (PySem.W.callWith_KW0 (h₀ := X.base) I.ok.mod.kin hk hall (thn (hkw.run pos pins s σ H _ I h) fun ws s2 ⟨zs, H2, I2, rz, q2⟩ => ⟨I2.kIn, by
      rw [hks]
      exact go_fn (ar := ⟨[], ks.zip ws⟩) F hg hr I2 (hb.rel .nil rz) (fun hl => hb.to s2 [] ws I2.kIn hl) q2⟩) hpl) hdb)⟩
end

/-! ### the law's end -/
section
variable {P : Program} {w : World} {K : PySem.W.Frag} {mg mb : Str → Option Value}
/-- the script's object alone is known, as it stands -/
def scrH (K : PySem.W.Frag) (a : Addr) (ob : Obj) (ns : List Int) : Hp := fun b => if b = a ∧ K.lookup a = none then some (.frz ob (.lst (ns.map V.int))) else none
theorem scrH_some {a b : Addr} {ob : Obj} {ns : List Int} {u : HO} (h : scrH K a ob ns b = some u) : b = a ∧ K.lookup a = none ∧ u = .frz ob (.lst (ns.map V.int)) := by
  unfold scrH at h
  by_cases c : b = a ∧ K.lookup a = none
  · rw [if_pos c] at h
    exact ⟨c.1, c.2, (Option.some.inj h).symm⟩
  · rw [if_neg c] at h; cases h
theorem end_call {n : Nat} {fa a : Addr} {fd : FuncData} {x : Str} {sp : Sp} {z : Shared} {vs : List Value} {ns : List Int} (inK : K.In z.heap) (hm : z.heap.Ns mainGlobals mg) (hbn : z.heap.Ns builtinsNs mb) (hbt : ∀ y : Str, y ≠ "__name__" → mb y = bootBuiltins y) (lim : z.heap.NoLimit) (hg : z.gens = #[])
    (ha : z.heap.get? a = some { cls := .type "list", data := .seq vs.toArray }) (hi : IntsAre vs ns) (hl : ns.length ≤ sizeLine) (hr : Room n callerA) (F : ∀ b0 : Heap, K.In b0 → b0.Ns mainGlobals mg → FnG P w K mg b0 n fa fd [x] sp) (hb : ∀ (s : Shared) (u : Value), BindsTo s fd ⟨[u], []⟩ [(x, u)])
    (hsp : ∀ H : Hp, SqL K H a (ns.map V.int) → (∀ b xs, H b ≠ some (.lst xs)) → sp [.ref a] H (fun v _ => v = .bl true) E0) :
    codeAny (model P w) callerA (.call (.ref fa) ⟨[.ref a], []⟩) (fun r z' => r = .ok (.ret (.bool true)) ∧ OldK z.heap z'.heap ∧ z'.os = z.os ∧ AllBare z'.gens) z := by
  obtain ⟨ob, eob⟩ : ∃ ob : Obj, ob = { cls := .type "list", data := .seq vs.toArray } := ⟨_, rfl⟩
  rw [← eob] at ha
  have rv : Vals (ns.map V.int) vs := vals_ints hi
  have hsq : SqL K (scrH K a ob ns) a (ns.map V.int) := by
    cases ek : K.lookup a with
    | none => exact .inl (.inr ⟨ob, if_pos ⟨rfl, ek⟩⟩)
    | some o =>
      have e1 := inK a o ek
      rw [ha] at e1
      cases e1
      exact .inr ⟨_, vs.toArray, _, ek, by rw [eob], by rw [eob], by rw [eob], by rw [List.size_toArray, hi.length]; exact hl, by simpa using rv⟩
  have hok : HOk P w (scrH K a ob ns) z.heap := fun b u e => by
    obtain ⟨rfl, _, rfl⟩ := scrH_some e
    exact ⟨ha, by rw [List.length_map]; exact hl, vs, _, rv, by rw [ha, eob]⟩
  -- what has no entry keeps its place in the base
  have nodict : ∀ {b : Addr} {o : Obj} {d : Array DictEntry} {m : Nat}, z.heap.get? b = some o → o.data = .dict d m → scrH K a ob ns b = none := fun {b o d m} e ed => by
    cases q : scrH K a ob ns b with
    | none => rfl
    | some u =>
      obtain ⟨rfl, _, _⟩ := scrH_some q
      rw [ha] at e
      cases e
      rw [eob] at ed
      cases ed
  have ns0 : ∀ {b : Addr} {m : Str → Option Value}, z.heap.Ns b m → (hidT z.heap (scrH K a ob ns)).Ns b m := fun {b m} ⟨o, d, c, e, ed, r⟩ => ⟨o, d, c, hidT_get e (nodict e ed), ed, r⟩
  have inB : K.In (hidT z.heap (scrH K a ob ns)) := fun b o e => by
    refine hidT_get (inK b o e) ?_
    cases q : scrH K a ob ns b with
    | none => rfl
    | some u =>
      obtain ⟨rfl, e2, _⟩ := scrH_some q
      rw [e] at e2; cases e2
  obtain ⟨mc, l1, l2⟩ := lim
  have e0 : Env0 P w K mg (hidT z.heap (scrH K a ob ns)) callerA [] z (scrH K a ob ns) := ⟨rfl, ⟨inB, ns0 hm, ⟨mb, ns0 hbn, hbt⟩, ⟨mc, ns0 l1, l2⟩⟩, fun b o e => of_hidT e, Nat.le_of_eq (hidT_size _ _), trivial, fun b hb => (List.not_mem_nil hb).elim, hok, .of_eq hg⟩
  have run := (F _ inB (ns0 hm)).go callerA [] z _ ⟨[.ref a], []⟩ [.ref a] [.ref a] _ rfl hr e0 (hb z (.ref a)) (.cons rfl .nil) (hsp _ hsq fun b xs e => by
    obtain ⟨_, _, e2⟩ := scrH_some e
    cases e2)
  refine codeAny_mono run fun r z' ⟨u, er, v, H', eo, eb, un, hok', rvu, ev⟩ => ?_
  subst er
  subst ev
  have eu : u = Value.bool true := rvu
  subst eu
  refine ⟨rfl, OldK.of_keep fun b o e => ?_, eo, eb⟩
  cases q : scrH K a ob ns b with
  | none => exact un.keep b o e q (fun hb => List.not_mem_nil (a := b) hb) (fun hb => List.not_mem_nil (a := b) hb)
  | some u =>
    obtain ⟨rfl, _, rfl⟩ := scrH_some q
    rw [ha] at e
    cases e
    exact (hok' b _ (un.frzs b ob _ q)).1
/-- the goal that is left of a law behind its head -/
theorem end_of {l : PySem.W.OpenLaw} {n k : Nat} {q : Program} {loose : List Str} {XP : (Str → Option Value) → Heap → Prop} {YP : World → Heap → Prop} {d : DefRec} {KK : Params → PySem.W.Frag} {sp : PySem.W.Frag → Sp} {x : Str} (hn : l.most = some n) (hn2 : n ≤ sizeLine) (hdf : d.params.defaults = []) (hr : Room k callerA)
    (hY : ∀ (w : World) (h : Heap), YP w h → (KK w.params).In h)
    (F : ∀ (w : World) (mg : Str → Option Value) (fa : Addr) (h : Heap), (KK w.params).In h → h.Ns mainGlobals mg → mg d.name = some (.ref fa) → ∃ fd : FuncData, (∀ (s : Shared) (u : Value), BindsTo s fd ⟨[u], []⟩ [(x, u)]) ∧
      ∀ b0 : Heap, (KK w.params).In b0 → b0.Ns mainGlobals mg → FnG l.prog w (KK w.params) mg b0 k fa fd [x] (sp (KK w.params)))
    (hsp : ∀ (K : PySem.W.Frag) (H : Hp) (a : Addr) (ns : List Int), ns.length ≤ n → SqL K H a (ns.map V.int) → (∀ b xs, H b ≠ some (.lst xs)) → sp K [.ref a] H (fun v _ => v = .bl true) E0) :
    PySem.W.WalkO q loose XP YP l.row.toRowW d [] (fun f vs => PySem.call f vs) := by
  refine Att.attach_call hn hdf fun w s0 s1 mg mb fa o pm cd doc a vs ns G Y ho hd hcd hmg hobj hints hlen hg => ?_
  obtain ⟨fd, hb, hF⟩ := F w mg fa _ (hY w _ Y) G.T.g hmg
  exact end_call (hY w _ Y) G.T.g G.T.b G.T.builtins G.T.nolimit hg hobj hints (Nat.le_trans hlen hn2) hr hF hb fun H hS hH => hsp _ H a ns hlen hS hH
end
end Pv
end

section
set_option Elab.async false
set_option linter.all false
set_option maxRecDepth 100000
/-! PvS: built-ins. -/
namespace Pv
open PySem PySem.Spec PyProof.Rows L2

section
variable {A : Act} {kd : List Kd} {X : Cx}
theorem evE_bi {C : Cal} {b : Bi} {as : List Ir} {env env' : Env} {t : T} (h : evE C (.bi b as) env = some (t, env')) : ∃ xs, evEs C as env = some (xs, env') ∧ biT b xs = some t := by
  unfold evE at h
  obtain ⟨⟨xs, e1⟩, h1, h⟩ := bind_some h
  obtain ⟨z, h2, h⟩ := bind_some h
  cases h
  exact ⟨xs, h1, h2⟩
theorem bi_imp {b : Bi} {as : List Ir} (ra : as.all (rdK kd) = true) : ∀ σ H Q, tF A kd 1 (.bi b as) σ H Q → tCB (rTn A.K (biT b)) (tRs A kd as) σ H Q := opn_imp (fun env t env' h => evE_bi h) (fun i h => h) ra
theorem s_bi {b : Bi} {as : List Ir} {id : String} {x : Str} {p pos : Pos} {e : Expr} {es : List Expr} (hc : CallR X (.builtin id) (rTn X.K (biT b))) (hK : A.K = X.K) (hg : Gl X x) (hm : X.mg x = none) (hv : bootBuiltins x = some (.builtin id)) (ha : PA X (e :: es) (tRs A kd as)) (ra : as.all (rdK kd) = true) (hn : x ≠ "__name__") (hdb : (x == ("__debug__" : Str)) = false)
    (he : starEach (e :: es) X.env = (false, eval e X.env) :: starEach es X.env) (hpl : (backTo pos (starEach es X.env)).any (·.1) = false) : PE X (.Call (.Name x p) (e :: es) [] pos) (tF A kd 1 (.bi b as)) := by
  rw [← hK] at hc
  exact PE.imp (pe_callB hc hg hm hv ha hn hdb he hpl) (bi_imp ra)
theorem s_biTy {b : Bi} {as : List Ir} {id : String} {x : Str} {p pos : Pos} {e : Expr} {es : List Expr} (hc : CallR X (.type id) (rTn X.K (biT b))) (hK : A.K = X.K) (hg : Gl X x) (hm : X.mg x = none) (hv : bootBuiltins x = some (.type id)) (ha : PA X (e :: es) (tRs A kd as)) (ra : as.all (rdK kd) = true) (hn : x ≠ "__name__") (hdb : (x == ("__debug__" : Str)) = false)
    (he : starEach (e :: es) X.env = (false, eval e X.env) :: starEach es X.env) (hpl : (backTo pos (starEach es X.env)).any (·.1) = false) : PE X (.Call (.Name x p) (e :: es) [] pos) (tF A kd 1 (.bi b as)) := by
  rw [← hK] at hc
  exact PE.imp (pe_callTy hc hg hm hv ha hn hdb he hpl) (bi_imp ra)
end
end Pv
end

section
set_option Elab.async false
set_option linter.all false
set_option maxRecDepth 100000
/-! PvT: what built-ins answer. -/
namespace Pv
open PySem PySem.Spec PyProof.Rows L2

theorem ltCps_eq : ∀ a b : List Nat, ltCps a b = decide (a < b)
  | [], [] => by simp [ltCps]
  | [], b :: l => by simp [ltCps]
  | a :: l, [] => by simp [ltCps]
  | a :: l, b :: m => by
    show (decide (a < b) || (a == b && ltCps l m)) = decide (a :: l < b :: m)
    rw [ltCps_eq l m, Bool.eq_iff_iff]
    simp [List.cons_lt_cons_iff]
theorem perm_unique {α : Type} {r : α → α → Prop} (anti : ∀ a b, r a b → r b a → a = b) : ∀ {l m : List α}, l.Perm m → l.Pairwise r → m.Pairwise r → l = m
  | [], m, h, _, _ => by simpa using h.symm
  | x :: l, [], h, _, _ => by simpa using h
  | x :: l, y :: m, h, h1, h2 => by
    have e : x = y := by
      have m1 : x ∈ y :: m := h.mem_iff.mp List.mem_cons_self
      have m2 : y ∈ x :: l := h.mem_iff.mpr List.mem_cons_self
      rcases List.mem_cons.mp m1 with e | m1
      · exact e
      · rcases List.mem_cons.mp m2 with e | m2
        · exact e.symm
        · exact anti x y ((List.pairwise_cons.mp h1).1 y m2) ((List.pairwise_cons.mp h2).1 x m1)
    subst e
    rw [perm_unique anti ((List.perm_cons x).mp h) (List.pairwise_cons.mp h1).2 (List.pairwise_cons.mp h2).2]
theorem insI_perm (x : Int) : ∀ l : List Int, (insI x l).Perm (x :: l)
  | [] => .refl _
  | y :: l => by
    unfold insI
    split
    · exact ((insI_perm x l).cons y).trans (List.Perm.swap x y l)
    · exact .refl _
theorem sortI_perm : ∀ l : List Int, (sortI l).Perm l
  | [] => .refl _
  | x :: l => (insI_perm x (sortI l)).trans ((sortI_perm l).cons x)
theorem insI_sorted (x : Int) : ∀ {l : List Int}, l.Pairwise (· ≤ ·) → (insI x l).Pairwise (· ≤ ·)
  | [], _ => by simp [insI]
  | y :: l, h => by
    obtain ⟨h1, h2⟩ := List.pairwise_cons.mp h
    unfold insI
    split
    · rename_i hlt
      refine List.pairwise_cons.mpr ⟨fun z hz => ?_, insI_sorted x h2⟩
      rcases List.mem_cons.mp ((insI_perm x l).mem_iff.mp hz) with rfl | hz
      · omega
      · exact h1 z hz
    · rename_i hlt
      refine List.pairwise_cons.mpr ⟨fun z hz => ?_, h⟩
      rcases List.mem_cons.mp hz with rfl | hz
      · omega
      · have := h1 z hz
        omega
theorem sortI_sorted : ∀ l : List Int, (sortI l).Pairwise (· ≤ ·)
  | [] => .nil
  | x :: l => insI_sorted x (sortI_sorted l)
def leS' (a b : List Nat) : Prop := ¬ b < a
theorem leS_trans {a b c : List Nat} (h : leS' a b) (h' : leS' b c) : leS' a c := List.not_lt.mpr (List.le_trans (List.not_lt.mp h) (List.not_lt.mp h'))
theorem leS_anti (a b : List Nat) (h : leS' a b) (h' : leS' b a) : a = b := List.le_antisymm (List.not_lt.mp h) (List.not_lt.mp h')
theorem leS_of_lt {a b : List Nat} (h : a < b) : leS' a b := fun z => List.lt_irrefl a (List.lt_trans h z)
theorem insS_perm (x : List Nat) : ∀ l, (insS x l).Perm (x :: l)
  | [] => .refl _
  | y :: l => by
    unfold insS
    split
    · exact ((insS_perm x l).cons y).trans (List.Perm.swap x y l)
    · exact .refl _
theorem sortS_perm : ∀ l, (sortS l).Perm l
  | [] => .refl _
  | x :: l => (insS_perm x (sortS l)).trans ((sortS_perm l).cons x)
theorem insS_sorted (x : List Nat) : ∀ {l}, l.Pairwise leS' → (insS x l).Pairwise leS'
  | [], _ => by simp [insS]
  | y :: l, h => by
    obtain ⟨h1, h2⟩ := List.pairwise_cons.mp h
    unfold insS
    split
    · rename_i hlt
      refine List.pairwise_cons.mpr ⟨fun z hz => ?_, insS_sorted x h2⟩
      rcases List.mem_cons.mp ((insS_perm x l).mem_iff.mp hz) with rfl | hz
      · exact leS_of_lt hlt
      · exact h1 z hz
    · rename_i hlt
      refine List.pairwise_cons.mpr ⟨fun z hz => ?_, h⟩
      rcases List.mem_cons.mp hz with rfl | hz
      · exact hlt
      · exact leS_trans hlt (h1 z hz)
theorem sortS_sorted : ∀ l, (sortS l).Pairwise leS'
  | [] => .nil
  | x :: l => insS_sorted x (sortS_sorted l)
theorem risingS_pairwise : ∀ (p : Str) (l : List Str), risingS p l = true → ((p :: l).map fun s => s.cps.toList).Pairwise leS'
  | p, [], _ => by simp
  | p, x :: r, h => by
    have h : (!ltCps x.cps.toList p.cps.toList && risingS x r) = true := h
    obtain ⟨h1, h2⟩ := Bool.and_eq_true_iff.mp h
    have h1 : leS' p.cps.toList x.cps.toList := by
      rw [ltCps_eq] at h1
      exact of_decide_eq_false (by simpa only [Bool.not_eq_true'] using h1)
    have ih := risingS_pairwise x r h2
    rw [List.map_cons]
    refine List.pairwise_cons.mpr ⟨fun z hz => ?_, ih⟩
    rw [List.map_cons] at hz ih
    rcases List.mem_cons.mp hz with rfl | hz
    · exact h1
    · exact leS_trans h1 ((List.pairwise_cons.mp ih).1 z hz)
theorem sortedS_pairwise : ∀ (l : List Str), sortedS l = true → (l.map fun s => s.cps.toList).Pairwise leS'
  | [], _ => by simp
  | x :: r, h => risingS_pairwise x r h

section
variable {K : PySem.W.Frag} {F H : Hp}
theorem Shals.one {t : T} {vs : List V} (h : Shals K F H [t] vs) : ∃ v, vs = [v] ∧ Shal K F H t v := by
  cases h with | cons h1 h2 => cases h2 with | nil => exact ⟨_, rfl, h1⟩
theorem Shals.two {t u : T} {vs : List V} (h : Shals K F H [t, u] vs) : ∃ v w, vs = [v, w] ∧ Shal K F H t v ∧ Shal K F H u w := by
  cases h with | cons h1 h2 =>
  cases h2 with | cons h3 h4 =>
  cases h4 with | nil => exact ⟨_, _, rfl, h1, h3⟩
theorem ints_rep : ∀ {l : List T} {ns : List Int} {xs : List V}, intsOf l = some ns → Reps K F l xs → xs = ns.map V.int ∧ l = ns.map T.int
  | [], ns, xs, h, r => by
    cases h
    cases r
    exact ⟨rfl, rfl⟩
  | t :: l, ns, xs, h, r => by
    cases t with
    | int i =>
      obtain ⟨ms, h1, rfl⟩ := Option.map_eq_some_iff.mp (show (intsOf l).map (i :: ·) = some ns from h)
      cases r with | cons r1 r2 =>
      cases r1
      obtain ⟨e1, e2⟩ := ints_rep h1 r2
      exact ⟨by rw [e1]; rfl, by rw [e2]; rfl⟩
    | _ => cases h
theorem bools_rep : ∀ {l : List T} {ns : List Bool} {xs : List V}, boolsOf l = some ns → Reps K F l xs → xs = ns.map V.bl
  | [], ns, xs, h, r => by
    cases h
    cases r
    rfl
  | t :: l, ns, xs, h, r => by
    cases t with
    | bl i =>
      obtain ⟨ms, h1, rfl⟩ := Option.map_eq_some_iff.mp (show (boolsOf l).map (i :: ·) = some ns from h)
      cases r with | cons r1 r2 =>
      cases r1
      rw [bools_rep h1 r2]; rfl
    | _ => cases h
theorem strs_rep : ∀ {l : List T} {ns : List (List Nat)} {xs : List V}, strsOf l = some ns → Reps K F l xs → xs = (ns.map fun s => (⟨s.toArray⟩ : Str)).map V.str ∧ ∀ s ∈ ns, strOkL s = true ∧ okLen s.length = true
  | [], ns, xs, h, r => by
    cases h
    cases r
    exact ⟨rfl, fun s hs => by cases hs⟩
  | t :: l, ns, xs, h, r => by
    cases t with
    | str i =>
      obtain ⟨ms, h1, rfl⟩ := Option.map_eq_some_iff.mp (show (strsOf l).map (i :: ·) = some ns from h)
      cases r with | cons r1 r2 =>
      cases r1 with | str _ a1 a2 =>
      obtain ⟨e1, e2⟩ := strs_rep h1 r2
      refine ⟨by rw [e1]; rfl, fun s hs => ?_⟩
      rcases List.mem_cons.mp hs with rfl | hs
      · exact ⟨a1, a2⟩
      · exact e2 s hs
    | _ => cases h
theorem reps_ints (ns : List Int) : Reps K F (ns.map T.int) (ns.map V.int) := by
  induction ns with
  | nil => exact .nil
  | cons n ns ih => exact .cons (.int n) ih
theorem reps_strs : ∀ {ns : List (List Nat)}, (∀ s ∈ ns, strOkL s = true ∧ okLen s.length = true) → Reps K F (ns.map T.str) ((ns.map fun s => (⟨s.toArray⟩ : Str)).map V.str)
  | [], _ => .nil
  | s :: ns, h => .cons (.str s (h s List.mem_cons_self).1 (h s List.mem_cons_self).2) (reps_strs fun s' hs => h s' (List.mem_cons_of_mem _ hs))
end
section
variable {X : Cx}
theorem b_len : CallR X (.builtin "len") (rTn X.K (biT .len)) := by
  intro pins s σ H xs us Q I r h
  obtain ⟨F, ts, z, hs, hv, hb, q⟩ := h
  change lenT ts = some z at hb
  unfold lenT at hb
  split at hb
  · obtain ⟨v, rfl, h1⟩ := hv.one
    cases hb
    cases h1 with | @tup _ a xs h2 h3 =>
    refine call_len pins s σ H _ us Q I r ⟨_, _, rfl, .inr ⟨xs, Same.seqT hs h2, rfl⟩, ?_⟩
    rw [← h3.length]
    exact q _ _ (outS (.int _))
  · obtain ⟨v, rfl, h1⟩ := hv.one
    cases hb
    obtain ⟨a, xs, rfl, h2, h3⟩ := h1
    refine call_len pins s σ H _ us Q I r ⟨_, _, rfl, .inl ⟨xs, SqL.of h2, rfl⟩, ?_⟩
    rw [← h3.length]
    exact q _ _ (outS (.int _))
  · obtain ⟨v, rfl, h1⟩ := hv.one
    cases hb
    cases h1 with | str _ a1 a2 =>
    refine call_len pins s σ H _ us Q I r ⟨_, _, rfl, ⟨by rw [strLen]; exact okLen_line a2, rfl⟩, ?_⟩
    rw [strLen]
    exact q _ _ (outS (.int _))
  · cases hb
theorem b_list : CallR X (.type "list") (rTn X.K (biT .list)) := by
  intro pins s σ H xs us Q I r h
  obtain ⟨F, ts, z, hs, hv, hb, q⟩ := h
  change listT ts = some z at hb
  unfold listT at hb
  split at hb
  · obtain ⟨v, rfl, h1⟩ := hv.one
    cases hb
    cases h1 with | @tup _ a xs h2 h3 =>
    exact call_list_of pins s σ H _ us Q I r ⟨a, xs, rfl, .inr (Same.seqT hs h2), fun p hp => q _ _ (.inr (.inl ⟨p, xs, _, rfl, rfl, hp, rfl, h3⟩))⟩
  · obtain ⟨v, rfl, h1⟩ := hv.one
    cases hb
    obtain ⟨a, xs, rfl, h2, h3⟩ := h1
    exact call_list_of pins s σ H _ us Q I r ⟨a, xs, rfl, .inl (SqL.of h2), fun p hp => q _ _ (.inr (.inl ⟨p, xs, _, rfl, rfl, hp, rfl, h3⟩))⟩
  · cases hb
theorem b_tuple : CallR X (.type "tuple") (rTn X.K (biT .tuple)) := by
  intro pins s σ H xs us Q I r h
  obtain ⟨F, ts, z, hs, hv, hb, q⟩ := h
  change tupleT ts = some z at hb
  unfold tupleT at hb
  split at hb
  · obtain ⟨v, rfl, h1⟩ := hv.one
    cases hb
    cases h1 with | @tup _ a xs h2 h3 =>
    exact call_tuple_of pins s σ H _ us Q I r ⟨a, xs, rfl, .inr ⟨Same.seqT hs h2, q _ _ (outS (.tup h2 h3))⟩⟩
  · obtain ⟨v, rfl, h1⟩ := hv.one
    cases hb
    obtain ⟨a, xs, rfl, h2, h3⟩ := h1
    exact call_tuple_of pins s σ H _ us Q I r ⟨a, xs, rfl, .inl ⟨SqL.of h2, fun p hp => q _ _ (.inr (.inr ⟨p, xs, _, rfl, rfl, hp, rfl, h3⟩))⟩⟩
  · cases hb
theorem b_sum (hc : X.calm = true) : CallR X (.builtin "sum") (rTn X.K (biT .sum)) := by
  intro pins s σ H xs us Q I r h
  obtain ⟨F, ts, z, hs, hv, hb, q⟩ := h
  change sumT ts = some z at hb
  unfold sumT at hb
  split at hb
  · obtain ⟨v, rfl, h1⟩ := hv.one
    obtain ⟨ns, h4, rfl⟩ := Option.map_eq_some_iff.mp hb
    obtain ⟨a, xs, rfl, h2, h3⟩ := h1
    obtain ⟨rfl, _⟩ := ints_rep h4 h3
    exact cr_sum hc pins s σ H _ us Q I r ⟨a, ns, rfl, SqL.of h2, q _ _ (outS (.int _))⟩
  · cases hb
theorem b_all (hc : X.calm = true) : CallR X (.builtin "all") (rTn X.K (biT .all)) := by
  intro pins s σ H xs us Q I r h
  obtain ⟨F, ts, z, hs, hv, hb, q⟩ := h
  change allT ts = some z at hb
  unfold allT at hb
  split at hb
  · obtain ⟨v, rfl, h1⟩ := hv.one
    obtain ⟨ns, h4, rfl⟩ := Option.map_eq_some_iff.mp hb
    obtain ⟨a, xs, rfl, h2, h3⟩ := h1
    have e := bools_rep h4 h3
    subst e
    exact cr_all hc pins s σ H _ us Q I r ⟨a, ns, rfl, SqL.of h2, q _ _ (outS (.bl _))⟩
  · cases hb
theorem b_any (hc : X.calm = true) : CallR X (.builtin "any") (rTn X.K (biT .any)) := by
  intro pins s σ H xs us Q I r h
  obtain ⟨F, ts, z, hs, hv, hb, q⟩ := h
  change anyT ts = some z at hb
  unfold anyT at hb
  split at hb
  · obtain ⟨v, rfl, h1⟩ := hv.one
    obtain ⟨ns, h4, rfl⟩ := Option.map_eq_some_iff.mp hb
    obtain ⟨a, xs, rfl, h2, h3⟩ := h1
    have e := bools_rep h4 h3
    subst e
    exact cr_any hc pins s σ H _ us Q I r ⟨a, ns, rfl, SqL.of h2, q _ _ (outS (.bl _))⟩
  · cases hb
theorem b_int : CallR X (.type "int") (rTn X.K (biT .int)) := by
  intro pins s σ H xs us Q I r h
  obtain ⟨F, ts, z, hs, hv, hb, q⟩ := h
  change intB ts = some z at hb
  unfold intB at hb
  split at hb
  · obtain ⟨v, rfl, h1⟩ := hv.one
    cases hb
    cases h1
    exact call_int1 pins s σ H _ us Q I r (.inr ⟨_, rfl, q _ _ (outS (.int _))⟩)
  · obtain ⟨v, rfl, h1⟩ := hv.one
    cases hb
    cases h1
    exact call_int1 pins s σ H _ us Q I r (.inl ⟨_, rfl, q _ _ (outS (.int _))⟩)
  · cases hb
theorem b_sorted : CallR X (.builtin "sorted") (rTn X.K (biT .sorted)) := by
  intro pins s σ H xs us Q I r h
  obtain ⟨F, ts, z, hs, hv, hb, q⟩ := h
  change sortedT ts = some z at hb
  unfold sortedT at hb
  split at hb
  · rename_i l
    obtain ⟨v, rfl, h1⟩ := hv.one
    obtain ⟨a, xs, rfl, h2, h3⟩ := h1
    unfold sortT at hb
    split at hb
    · rename_i ns h4
      cases hb
      obtain ⟨rfl, _⟩ := ints_rep h4 h3
      refine cr_sortedI pins s σ H _ us Q I r ⟨a, ns, rfl, SqL.of h2, fun ns' p hp hsd hn => ?_⟩
      have e : ns' = sortI ns := perm_unique (r := (· ≤ ·)) (fun a b => Int.le_antisymm) (hp.trans (sortI_perm ns).symm) hsd (sortI_sorted ns)
      rw [e]
      exact q _ _ (.inr (.inl ⟨p, _, _, rfl, rfl, hn, rfl, reps_ints _⟩))
    · split at hb
      · rename_i ss h4
        split at hb
        · rename_i hl
          cases hb
          obtain ⟨rfl, hok⟩ := strs_rep h4 h3
          refine cr_sortedS pins s σ H _ us Q I r ⟨a, ss.map fun s => ⟨s.toArray⟩, rfl, SqL.of h2, by rw [List.length_map]; exact hl, fun ys p hp hsd hn => ?_⟩
          have e : (ys.map fun s => s.cps.toList) = sortS ss := by
            refine perm_unique leS_anti ?_ (sortedS_pairwise ys hsd) (sortS_sorted ss)
            refine ((hp.map fun s => s.cps.toList)).trans ?_
            rw [List.map_map]
            have : ((fun s : Str => s.cps.toList) ∘ fun s : List Nat => (⟨s.toArray⟩ : Str)) = id := by
              funext s
              simp
            rw [this, List.map_id]
            exact (sortS_perm ss).symm
          have e2 : ys = (sortS ss).map fun s => (⟨s.toArray⟩ : Str) := by
            rw [← e, List.map_map]
            have : ((fun s : List Nat => (⟨s.toArray⟩ : Str)) ∘ fun s : Str => s.cps.toList) = id := by
              funext s
              simp
            rw [this, List.map_id]
          rw [e2]
          refine q _ _ (.inr (.inl ⟨p, _, _, rfl, rfl, hn, rfl, reps_strs fun s hs => hok s ((sortS_perm ss).mem_iff.mp hs)⟩))
        · cases hb
      · cases hb
  · cases hb
theorem b_abs : CallR X (.builtin "abs") (rTn X.K (biT .abs)) := by
  intro pins s σ H xs us Q I r h
  obtain ⟨F, ts, z, hs, hv, hb, q⟩ := h
  change absT ts = some z at hb
  unfold absT at hb
  split at hb
  · obtain ⟨v, rfl, h1⟩ := hv.one
    cases hb
    cases h1
    exact call_abs pins s σ H _ us Q I r ⟨_, rfl, q _ _ (outS (.int _))⟩
  · cases hb
theorem b_min2 (hc : X.calm = true) : CallR X (.builtin "min") (rTn X.K (biT .min2)) := by
  intro pins s σ H xs us Q I r h
  obtain ⟨F, ts, z, hs, hv, hb, q⟩ := h
  change min2T ts = some z at hb
  unfold min2T at hb
  split at hb
  · obtain ⟨v, w, rfl, h1, h2⟩ := hv.two
    cases hb
    cases h1
    cases h2
    exact call_min2 hc pins s σ H _ us Q I r ⟨_, _, rfl, q _ _ (outS (.int _))⟩
  · cases hb
theorem b_max2 (hc : X.calm = true) : CallR X (.builtin "max") (rTn X.K (biT .max2)) := by
  intro pins s σ H xs us Q I r h
  obtain ⟨F, ts, z, hs, hv, hb, q⟩ := h
  change max2T ts = some z at hb
  unfold max2T at hb
  split at hb
  · obtain ⟨v, w, rfl, h1, h2⟩ := hv.two
    cases hb
    cases h1
    cases h2
    exact call_max2 hc pins s σ H _ us Q I r ⟨_, _, rfl, q _ _ (outS (.int _))⟩
  · cases hb
end
end Pv
end

section
set_option Elab.async false
set_option linter.all false
set_option maxRecDepth 100000
/-! PvV: repr. -/
namespace Pv
open PySem PySem.Spec PyProof.Rows L2

def SOk (x : Str) : Prop := ∀ c ∈ x.cps.toList, c < 0x110000
theorem char_lt (c : Char) : c.toNat < 0x110000 := by
  have h := c.valid
  have e : c.toNat = c.val.toNat := rfl
  rw [e]
  rcases h with h | ⟨_, h⟩
  · have : c.val.toNat < 0xD800 := h
    omega
  · exact h
theorem sok_of (s : String) : SOk (Str.ofString s) := fun c hc => by
  rw [Str.ofString_eq_toList] at hc
  simp at hc
  obtain ⟨d, _, rfl⟩ := hc
  exact char_lt d
theorem sok_append {x y : Str} (hx : SOk x) (hy : SOk y) : SOk (x ++ y) := fun c hc => by
  have hc : c ∈ (Str.append x y).cps.toList := hc
  unfold Str.append at hc
  simp at hc
  rcases hc with hc | hc
  · exact hx c (by simpa using hc)
  · exact hy c (by simpa using hc)
theorem sok_join {sep : Str} (hs : SOk sep) : ∀ {ts : List Str}, (∀ t ∈ ts, SOk t) → SOk (Str.join sep ts)
  | [], _ => by
    intro c hc
    have : (Str.join sep []) = Str.empty := rfl
    rw [this] at hc
    simp [Str.empty] at hc
  | [x], h => by
    show SOk x
    exact h x List.mem_cons_self
  | x :: y :: r, h => by
    show SOk (x ++ sep ++ Str.join sep (y :: r))
    exact sok_append (sok_append (h x List.mem_cons_self) hs) (sok_join hs fun t ht => h t (List.mem_cons_of_mem _ ht))
theorem sok_list {ts : List Str} (h : ∀ t ∈ ts, SOk t) : SOk (listText ts) := by
  rw [listText_eq_join]
  exact sok_append (sok_append (sok_of _) (sok_join (sok_of _) h)) (sok_of _)
theorem sok_tuple {ts : List Str} (h : ∀ t ∈ ts, SOk t) : SOk (tupleText ts) := by
  unfold tupleText
  exact sok_append (sok_append (sok_of _) (sok_join (sok_of _) h)) (sok_of _)
theorem sok_hex {w c d : Nat} (h : d ∈ (let e := (Nat.toDigits 16 c).map Char.toNat; List.replicate (w - e.length) 48 ++ e)) : d < 0x110000 := by
  rcases List.mem_append.mp h with h | h
  · rw [(List.mem_replicate.mp h).2]; omega
  · obtain ⟨x, _, rfl⟩ := List.mem_map.mp h
    exact char_lt x
theorem sok_char {q c d : Nat} (hc : c < 0x110000) (h : d ∈ Builtin.Str.reprChar q c) : d < 0x110000 := by
  unfold Builtin.Str.reprChar at h
  split at h
  · rcases List.mem_cons.mp h with rfl | h
    · omega
    · have : d = c := by simpa using h
      omega
  split at h
  · simp at h; omega
  split at h
  · simp at h; omega
  split at h
  · simp at h; omega
  split at h
  · have : d = c := by simpa using h
    omega
  split at h
  · rcases List.mem_append.mp h with h | h
    · simp at h; omega
    · exact sok_hex h
  split at h
  · rcases List.mem_append.mp h with h | h
    · simp at h; omega
    · exact sok_hex h
  · rcases List.mem_append.mp h with h | h
    · simp at h; omega
    · exact sok_hex h
theorem sok_fold {q : Nat} : ∀ {l : List Nat} {acc : Array Nat}, (∀ c ∈ l, c < 0x110000) → (∀ c ∈ acc.toList, c < 0x110000) → ∀ c ∈ (l.foldl (fun out c => out ++ (Builtin.Str.reprChar q c).toArray) acc).toList, c < 0x110000
  | [], acc, _, h => h
  | a :: l, acc, h, h' => by
    rw [List.foldl_cons]
    refine sok_fold (fun c hc => h c (List.mem_cons_of_mem _ hc)) fun c hc => ?_
    simp at hc
    rcases hc with hc | hc
    · exact h' c (by simpa using hc)
    · exact sok_char (h a List.mem_cons_self) hc
theorem quote_lt (x : Str) : reprQuote x < 0x110000 := by
  unfold reprQuote
  split <;> omega
theorem sok_text {x : Str} (h : SOk x) : SOk (reprText x) := fun c hc => by
  unfold reprText at hc
  simp only [Array.toList_push] at hc
  rcases List.mem_append.mp hc with hc | hc
  · rw [← Array.foldl_toList] at hc
    exact sok_fold h (fun d hd => by
      have : d = reprQuote x := by simpa using hd
      rw [this]; exact quote_lt x) c hc
  · have : c = reprQuote x := by simpa using hc
    rw [this]; exact quote_lt x
theorem sok_of_ok {s : List Nat} (h : strOkL s = true) : SOk ⟨s.toArray⟩ := fun c hc => by
  have := List.all_eq_true.mp h c (by simpa using hc)
  simpa using this
/-- a text that lies: its signs, its length -/
def T.strs : T → Prop := fun _ => True
mutual
theorem shown_ok {K : PySem.W.Frag} {F : Hp} : ∀ {t : T} {v : V}, Rep K F t v → t.small = true → t.pl = true → SOk (PyData.shown t.d) ∧ (PyData.shown t.d).length ≤ t.wt ∧ t.d.showable = true
  | _, _, .non, _, _ => ⟨sok_of _, by decide, rfl⟩
  | _, _, .bl b, _, _ => by cases b <;> exact ⟨sok_of _, by decide, rfl⟩
  | _, _, .int i, h, _ => by
    refine ⟨sok_of _, ?_, h⟩
    show (Str.ofString (toString i)).length ≤ 2000
    have h1 := int_text_length_le (a := i) (k := 1920) (by omega) (of_decide_eq_true h)
    have e : (Str.ofString (toString i)).length = (toString i).length := by
      rw [Str.ofString_eq_toList]
      show (((toString i).toList.map Char.toNat).toArray).size = _
      rw [List.size_toArray, List.length_map]
      exact String.length_toList
    omega
  | _, _, .str s a b, _, _ => by
    refine ⟨sok_text (sok_of_ok a), ?_, rfl⟩
    have h1 := StrLaws.reprText_len ⟨s.toArray⟩ fun c hc => Nat.lt_of_lt_of_le (sok_of_ok a c hc) (by decide)
    rw [strLen] at h1
    exact h1
  | _, _, .tup (ts := ts) h r, hs, hp => by
    obtain ⟨a, b, c⟩ := showns_ok r hs hp
    refine ⟨sok_tuple a, ?_, c⟩
    have := tupleText_len_le (PyData.shownAll (Ts.d ts))
    show (tupleText (PyData.shownAll (Ts.d ts))).length ≤ Ts.wt ts + 4
    omega
  | _, _, .lst (ts := ts) h r, hs, hp => by
    obtain ⟨a, b, c⟩ := showns_ok r hs hp
    refine ⟨sok_list a, ?_, c⟩
    have := listText_len_le (PyData.shownAll (Ts.d ts))
    show (listText (PyData.shownAll (Ts.d ts))).length ≤ Ts.wt ts + 4
    omega
theorem showns_ok {K : PySem.W.Frag} {F : Hp} : ∀ {ts : List T} {vs : List V}, Reps K F ts vs → Ts.small ts = true → Ts.pl ts = true → (∀ x ∈ PyData.shownAll (Ts.d ts), SOk x) ∧ ((PyData.shownAll (Ts.d ts)).map (·.length)).sum + 2 * (PyData.shownAll (Ts.d ts)).length ≤ Ts.wt ts ∧ PyData.showableAll (Ts.d ts) = true
  | _, _, .nil, _, _ => ⟨fun x hx => (by cases hx), Nat.le_refl _, rfl⟩
  | _, _, .cons (t := t) (ts := ts) h r, hs, hp => by
    obtain ⟨s1, s2⟩ := Bool.and_eq_true_iff.mp (show (t.small && Ts.small ts) = true from hs)
    obtain ⟨p1, p2⟩ := Bool.and_eq_true_iff.mp (show (t.pl && Ts.pl ts) = true from hp)
    obtain ⟨a1, a2, a3⟩ := shown_ok h s1 p1
    obtain ⟨b1, b2, b3⟩ := showns_ok r s2 p2
    refine ⟨fun x hx => ?_, ?_, ?_⟩
    · have hx : x ∈ PyData.shown t.d :: PyData.shownAll (Ts.d ts) := hx
      rcases List.mem_cons.mp hx with rfl | hx
      · exact a1
      · exact b1 x hx
    · show ((PyData.shown t.d).length :: (PyData.shownAll (Ts.d ts)).map (·.length)).sum + 2 * ((PyData.shownAll (Ts.d ts)).length + 1) ≤ t.wt + 2 + Ts.wt ts
      rw [List.sum_cons]
      omega
    · show (PyData.showable t.d && PyData.showableAll (Ts.d ts)) = true
      rw [a3, b3]; rfl
end
section
variable {X : Cx}
theorem b_repr (hu : X.A.units + 65 < cLine) (hg : X.A.guards = some []) : CallR X (.builtin "repr") (rTn X.K (biT .repr)) := by
  intro pins s σ H xs us Q I r h
  obtain ⟨F, ts, z, hs, hv, hb, q⟩ := h
  change reprB ts = some z at hb
  unfold reprB at hb
  split at hb
  · rename_i t
    obtain ⟨v, rfl, h1⟩ := hv.one
    by_cases hc : (t.isSq && t.pl && t.small && decide (t.dep ≤ 60) && okLen t.wt) = true
    · rw [if_pos hc] at hb
      cases hb
      simp only [Bool.and_eq_true] at hc
      obtain ⟨⟨⟨⟨c1, c2⟩, c3⟩, c4⟩, c5⟩ := hc
      have hrep := h1.rep hs
      obtain ⟨a, rfl⟩ : ∃ a, v = .ref a := by
        cases t with
        | tup l => cases hrep; exact ⟨_, rfl⟩
        | lst l => cases hrep; exact ⟨_, rfl⟩
        | _ => cases c1
      obtain ⟨s1, s2, s3⟩ := shown_ok hrep c3 c2
      obtain ⟨d1, d2⟩ := hrep.dp c2
      obtain ⟨u, rfl, ru⟩ := vals1 r
      have ru : u = Value.ref a := ru
      subst ru
      obtain ⟨as, rd⟩ := Dp.reads I _ (.ref a) (.ref a) d1 rfl
      have hdep := T.d_depth t
      have hd60 := of_decide_eq_true c4
      have hwt := of_decide_eq_true c5
      refine repr_of_reads' rd s3 (PyData.noDict_hsm (PyData.hasDict_of_canLay _ d2)) hg (by omega) (fun _ _ e => e) (fun h' u tk hk => ?_) (by
        have := okLen_line c5
        omega)
      have e : (⟨(reprT t).toArray⟩ : Str) = PyData.shown t.d := by
        unfold reprT
        simp
      refine ⟨.str (PyData.shown t.d), H, I.kept (t' := tk) hk, ⟨u, rfl⟩, ?_⟩
      rw [← e]
      refine q _ _ (outS (.str _ ?_ ?_))
      · unfold strOkL
        rw [List.all_eq_true]
        intro c hc
        exact decide_eq_true (s1 c hc)
      · have e2 : (reprT t).length = (PyData.shown t.d).length := by
          unfold reprT
          simp [Str.length]
        rw [e2]
        exact decide_eq_true (by omega)
    · rw [if_neg hc] at hb; cases hb
  · cases hb
end
end Pv
end

section
set_option Elab.async false
set_option linter.all false
set_option maxRecDepth 100000
/-! PvW: displays whose items are new; list(range(n)); calls with keywords. -/
namespace Pv
open PySem PySem.Spec PyProof.Rows L2

section
variable {K : PySem.W.Frag} {G F H : Hp} {es : List Ent}
theorem own_gather {c : Addr → Option Nat} {d : Nat} : ∀ {ts : List T} {vs : List V} {n m : Nat}, ts.length = n → vs.length = n →
    (∀ (j : Nat) (e : Ent), (ownEs (List.replicate n d) ts vs)[j]? = some e → ∃ al, EntR K G F H e.k e.t e.v al ∧ al.Nodup ∧ ∀ a ∈ al, c a = some (m + j) ∧ G a = none) →
    ∃ as, OwnL (OwnR K F H d) ts vs as ∧ as.Nodup ∧ ∀ a ∈ as, (∃ j, c a = some j ∧ m ≤ j) ∧ G a = none
  | [], [], n, m, _, _, _ => ⟨[], rfl, List.nodup_nil, fun a ha => by cases ha⟩
  | [], _ :: _, n, m, h, h', _ => by simp at h h'; omega
  | _ :: _, [], n, m, h, h', _ => by simp at h h'; omega
  | t :: ts, v :: vs, 0, m, h, _, _ => by simp at h
  | t :: ts, v :: vs, n + 1, m, h, h', q => by
    obtain ⟨al, r, nd, hc⟩ := q 0 ⟨.own d, t, v⟩ rfl
    obtain ⟨as, r2, nd2, hc2⟩ := own_gather (c := c) (m := m + 1) (n := n) (ts := ts) (vs := vs) (by simpa using h) (by simpa using h') fun j e hj => by
      obtain ⟨al, r, nd, hc⟩ := q (j + 1) e hj
      exact ⟨al, r, nd, fun a ha => ⟨by rw [(hc a ha).1]; congr 1; omega, (hc a ha).2⟩⟩
    refine ⟨al ++ as, ⟨al, as, r, r2, rfl⟩, List.nodup_append.mpr ⟨nd, nd2, fun a ha b hb e => ?_⟩, fun a ha => ?_⟩
    · subst e
      obtain ⟨⟨j, e1, e2⟩, _⟩ := hc2 a hb
      rw [(hc a ha).1] at e1
      injection e1 with e1
      omega
    · rcases List.mem_append.mp ha with ha | ha
      · exact ⟨⟨m, by rw [(hc a ha).1]; rfl, Nat.le_refl _⟩, (hc a ha).2⟩
      · obtain ⟨⟨j, e1, e2⟩, e3⟩ := hc2 a ha
        exact ⟨⟨j, e1, by omega⟩, e3⟩
theorem ownEs_len {d : Nat} : ∀ {ts : List T} {vs : List V} {n : Nat}, ts.length = n → vs.length = n → (ownEs (List.replicate n d) ts vs).length = n
  | [], [], n, h, _ => by
    have : n = 0 := by simpa using h.symm
    subst this; rfl
  | [], _ :: _, n, h, h' => by simp at h h'; omega
  | _ :: _, [], n, h, h' => by simp at h h'; omega
  | t :: ts, v :: vs, 0, h, _ => by simp at h
  | t :: ts, v :: vs, n + 1, h, h' => by
    show (ownEs (List.replicate n d) ts vs).length + 1 = n + 1
    rw [ownEs_len (by simpa using h) (by simpa using h')]
/-- a new list of items that are new -/
theorem Lay.gather {d : Nat} {ts : List T} {vs : List V} {p : Addr} {n : Nat} (L : Lay K G F H (es ++ ownEs (List.replicate n d) ts vs)) (h1 : ts.length = n) (h2 : vs.length = n) (hp : H p = none) : Lay K G F (upd H p (.lst vs)) (es ++ [⟨.own (d + 1), .lst ts, .ref p⟩]) := by
  obtain ⟨c, q⟩ := L.col
  have hFp : F p = none := L.fh.free hp
  have hGp : G p = none := L.gh.free hp
  obtain ⟨as, r, nd, hc⟩ := own_gather (K := K) (G := G) (F := F) (H := H) (c := c) (m := es.length) h1 h2 fun j e hj => by
    have h3 : (es ++ ownEs (List.replicate n d) ts vs)[es.length + j]? = some e := by
      rw [List.getElem?_append_right (by omega), show es.length + j - es.length = j by omega]
      exact hj
    exact q _ e h3
  have hpas : ∀ a ∈ as, a ≠ p := fun a ha z => by
    obtain ⟨xs, hx⟩ := OwnL.there d r a ha
    rw [z, hp] at hx; cases hx
  have su : Same H (upd H p (.lst vs)) := same_upd hp
  refine ⟨L.fh.trans su, L.gh.trans su, ⟨fun a => if a = p then some es.length else match c a with | some j => if j < es.length then some j else some es.length | none => none, fun j e hj => ?_⟩, fun j i t v hj => ?_⟩
  · rcases getC hj with ⟨hl, h3⟩ | ⟨rfl, rfl⟩
    · obtain ⟨al, r3, nd3, hc3⟩ := q j e (by rw [List.getElem?_append_left hl]; exact h3)
      have ne : ∀ a ∈ al, a ≠ p := fun a ha z => by
        obtain ⟨⟨xs, hx⟩, _⟩ := r3.there a ha
        rw [z, hp] at hx; cases hx
      refine ⟨al, r3.mono (Same.refl F) fun a ha => ⟨upd_ne (ne a ha), (r3.there a ha).2⟩, nd3, fun a ha => ⟨?_, (hc3 a ha).2⟩⟩
      simp only [if_neg (ne a ha), (hc3 a ha).1, if_pos hl]
    · refine ⟨p :: as, ⟨p, vs, as, rfl, upd_same, hFp, OwnL.mono r fun t v al hs q => q.mono (Same.refl F) d fun a ha => ⟨upd_ne (hpas a (hs a ha)), OwnL.none_at d r a (hs a ha)⟩, rfl⟩, List.nodup_cons.mpr ⟨fun z => hpas p z rfl, nd⟩, fun a ha => ?_⟩
      rcases List.mem_cons.mp ha with rfl | ha
      · exact ⟨by simp, hGp⟩
      · obtain ⟨⟨j, e1, e2⟩, e3⟩ := hc a ha
        refine ⟨?_, e3⟩
        simp only [if_neg (hpas a ha), e1]
        rw [if_neg (by omega)]
  · rcases getC hj with ⟨hl, h3⟩ | ⟨rfl, h3⟩
    · obtain ⟨hij, k, h4, h5⟩ := L.ali j i t v (by rw [List.getElem?_append_left hl]; exact h3)
      have : i < es.length := Nat.lt_trans hij hl
      rw [List.getElem?_append_left this] at h4
      exact ⟨hij, k, getL _ h4, h5⟩
    · cases h3
end
section
variable {A : Act} {kd : List Kd} {X : Cx}
theorem SR.repsD {F H : Hp} {env : Env} {σ : L2.St} : ∀ {ts : List T} {vs : List V} {n : Nat} {tm : List Ent}, ts.length = n → vs.length = n → SR A kd F H env σ (tm ++ ownEs (List.replicate n 0) ts vs) → Reps A.K F ts vs
  | [], [], _, _, _, _, _ => .nil
  | [], _ :: _, n, _, h, h', _ => by simp at h h'; omega
  | _ :: _, [], n, _, h, h', _ => by simp at h h'; omega
  | t :: ts, v :: vs, 0, _, h, _, _ => by simp at h
  | t :: ts, v :: vs, n + 1, tm, h, h', R => by
    have R1 : SR A kd F H env σ ((tm ++ [⟨.own 0, t, v⟩]) ++ ownEs (List.replicate n 0) ts vs) := by
      rw [List.append_assoc]; exact R
    exact .cons (R1.pops.rep last_get) (SR.repsD (by simpa using h) (by simpa using h') R1)
theorem s_lstD {d : Nat} {as : List Ir} {es : List Expr} {pos : Pos} (ha : PA X es (tDs A kd (List.replicate as.length d) as)) (hl : okLen as.length = true) : PE X (.List es pos) (tF A kd (d + 1) (.lst as)) :=
  PE.imp (pe_lst ha) fun σ H Q ⟨F, env, tm, t, env', R, n, ev, q⟩ => by
    obtain ⟨ts, h1, rfl⟩ := evEs_lst ev
    refine ⟨F, env, tm, ts, env', R, n, h1, fun vs F1 H1 hv R1 s1 => ⟨?_, fun p hp => ?_⟩⟩
    · rw [hv, evEs_len h1]; exact okLen_line hl
    · have hts := evEs_len h1
      have L := R1.lay1.gather (p := p) hts (by rw [hv, hts]) hp
      exact q _ F1 _ (R1.pops.pushes (fun _ h => .inl h) L) s1
theorem s_tupD {as : List Ir} {es : List Expr} {k : Nat} {pos : Pos} (ha : PA X es (tDs A kd (List.replicate as.length 0) as)) (hl : okLen as.length = true) : PE X (.Tuple es k pos) (tF A kd 1 (.tup as)) :=
  PE.imp (pe_tup ha) fun σ H Q ⟨F, env, tm, t, env', R, n, ev, q⟩ => by
    obtain ⟨ts, h1, rfl⟩ := evEs_tup ev
    refine ⟨F, env, tm, ts, env', R, n, h1, fun vs F1 H1 hv R1 s1 => ⟨?_, fun p hp => ?_⟩⟩
    · rw [hv, evEs_len h1]; exact okLen_line hl
    · have hts := evEs_len h1
      obtain ⟨F3, R4, s3⟩ := R1.pops.fin1 (.inr (.inr ⟨p, _, ts, rfl, rfl, hp, rfl, R1.repsD hts (by rw [hv, hts])⟩))
      exact q _ F3 _ R4 (s1.trans s3)

/-! ### list(range(n)) -/
theorem evE_lrg {C : Cal} {a : Ir} {env env' : Env} {t : T} (h : evE C (.lrg a) env = some (t, env')) : ∃ n : Int, evE C a env = some (.int n, env') ∧ 0 ≤ n ∧ n ≤ 1000000 ∧ t = .lst ((List.range n.toNat).map fun (k : Nat) => T.int (0 + (k : Int))) := by
  unfold evE at h
  obtain ⟨⟨x, e1⟩, h1, h⟩ := bind_some h
  obtain ⟨n, h2, h⟩ := bind_some h
  have e2 := intOf_some h2
  have h9 : (if (decide (0 ≤ n) && decide (n ≤ 1000000)) = true then some (T.lst ((List.range n.toNat).map fun (k : Nat) => T.int (0 + (k : Int))), e1) else none) = some (t, env') := h
  subst e2
  by_cases hn : (decide (0 ≤ n) && decide (n ≤ 1000000)) = true
  · rw [if_pos hn] at h9
    cases h9
    obtain ⟨q1, q2⟩ := Bool.and_eq_true_iff.mp hn
    exact ⟨n, h1, of_decide_eq_true q1, of_decide_eq_true q2, rfl⟩
  · rw [if_neg hn] at h9; cases h9
theorem s_lrg {a : Ir} {e : Expr} {p p2 pos pos2 : Pos} (hc : X.calm = true) (hg : Gl X "list") (hm : X.mg "list" = none) (hg2 : Gl X "range") (hm2 : X.mg "range" = none) (ha : PE X e (tR A kd a)) (na : starEach [e] X.env = (false, eval e X.env) :: starEach [] X.env) :
    PE X (.Call (.Name "list" p) [.Call (.Name "range" p2) [e] [] pos2] [] pos) (tF A kd 1 (.lrg a)) :=
  PE.imp (pe_listRg hc hg hm (prg_1 hg2 hm2 ha na) (by rfl)) fun σ H Q ⟨F, env, tm, t, env', R, n, ev, q⟩ => by
    obtain ⟨k, h1, h2, h3, rfl⟩ := evE_lrg ev
    refine ⟨F, env, tm, .int k, env', R, n, h1, fun kk v F1 H1 kr R1 s1 => ?_⟩
    have e1 := R1.intv kr
    subst e1
    refine ⟨k, rfl, ⟨by omega, by omega, by omega, by omega, by omega⟩, fun o ho => ?_⟩
    have r : Reps A.K F1 ((List.range k.toNat).map fun (k : Nat) => T.int (0 + (k : Int))) (rgV 0 k) := by
      unfold rgV
      rw [Int.sub_zero]
      induction List.range k.toNat with
      | nil => exact .nil
      | cons x xs ih => exact .cons (.int _) ih
    obtain ⟨F3, R4, s3⟩ := R1.pops.fin1 (.inr (.inl ⟨o, _, _, rfl, rfl, ho, rfl, r⟩))
    exact q _ F3 _ R4 (s1.trans s3)

/-! ### entries without anything of one's own -/
theorem Lay.plain {K : PySem.W.Frag} {G F H : Hp} {es : List Ent} (fh : Same F H) (gh : Same G H) (h : ∀ e ∈ es, EntR K G F H e.k e.t e.v [] ∧ ∀ i, e.k ≠ .al i) : Lay K G F H es :=
  ⟨fh, gh, ⟨fun _ => none, fun j e hj => ⟨[], (h e (List.mem_of_getElem? hj)).1, List.nodup_nil, fun a ha => by cases ha⟩⟩, fun j i t v hj => absurd rfl ((h _ (List.mem_of_getElem? hj)).2 i)⟩
end
end Pv
end

section
set_option Elab.async false
set_option linter.all false
set_option maxRecDepth 100000
/-! PvX: calls with keywords. -/
namespace Pv
open PySem PySem.Spec PyProof.Rows L2

section
variable {A : Act} {kd : List Kd} {X : Cx}
def permV {α : Type} (d : α) (perm : List Nat) (xs : List α) : List α := perm.map fun k => xs.getD k d
theorem vals_getD {vs : List V} {us : List Value} (r : Vals vs us) (k : Nat) : RelV (vs.getD k .non) (us.getD k Value.none) := by
  rw [List.getD_eq_getElem?_getD, List.getD_eq_getElem?_getD]
  cases e : vs[k]? with
  | none => rw [r.none_of e]; rfl
  | some x =>
    obtain ⟨u, h1, h2⟩ := r.get e
    rw [h1]; exact h2
theorem vals_perm {vs : List V} {us : List Value} (r : Vals vs us) : ∀ perm : List Nat, Vals (permV .non perm vs) (permV Value.none perm us)
  | [] => .nil
  | k :: perm => .cons (vals_getD r k) (vals_perm r perm)
def tCallN (sp : Sp) (perm : List Nat) (a b : Nat) (t tk : TA) : TE := fun σ H Q => t σ H fun vs H1 => tk σ H1 fun zs H2 => vs.length = a ∧ zs.length = b ∧ sp (permV .non perm (vs ++ zs)) H2 Q E0
/-- how a call with keywords binds -/
def KB (K : PySem.W.Frag) (fd : FuncData) (ps ks : List Str) (perm : List Nat) (a b : Nat) : Prop := ∀ (s : Shared) (us ws : List Value), K.In s.heap → us.length = a → ws.length = b → BindsTo s fd ⟨us, ks.zip ws⟩ (ps.zip (permV Value.none perm (us ++ ws)))
section
variable {n a b : Nat} {fa : Addr} {fd : FuncData} {ps ks : List Str} {sp : Sp} {perm : List Nat} {x : Str} {p pos : Pos} {e : Expr} {es : List Expr} {kws : List Keyword} {t tk : TA}
theorem g_callN (F : FnG X.prog X.w X.K X.mg X.base n fa fd ps sp) (hg : X.A.guards = some []) (hr : Room n X.A) (gl : Gl X x) (hm : X.mg x = some (.ref fa)) (hk : PySem.W.keepIn X.K (.ref fa) = true) (hb : KB X.K fd ps ks perm a b)
    (ha : PA X (e :: es) t) (hkw : PK X kws tk) (hall : (backToKw pos (keywordEach kws X.env)).all (·.1.isSome) = true) (hks : (backToKw pos (keywordEach kws X.env)).filterMap (·.1) = ks) (hdb : (x == ("__debug__" : Str)) = false) (he : starEach (e :: es) X.env = (false, eval e X.env) :: starEach es X.env)
    (hpl : ((backTo pos (starEach (e :: es) X.env)).any (·.1) || (backToKw pos (keywordEach kws X.env)).any (·.1.isNone)) = false) : PE X (.Call (.Name x p) (e :: es) kws pos) (tCallN sp perm a b t tk) :=
  ⟨fun pins s σ H Q I h => wpAny_Call_Name_kw (ld_glob I gl hm (PySem.W.callWith_KW (h₀ := X.base) I.ok.mod.kin hk hall (thn (ha.run pos pins s σ H _ I h) fun us s1 ⟨vs, H1, I1, rv, q1⟩ =>
    thn (hkw.run pos pins s1 σ H1 _ I1 q1) fun ws s2 ⟨zs, H2, I2, rz, l1, l2, q2⟩ => ⟨I2.kIn, by
      rw [hks]
      exact go_fn (ar := ⟨us, ks.zip ws⟩) F hg hr I2 (vals_perm (rv.append rz) perm) (fun _ => hb s2 us ws I2.kIn (by rw [← rv.length]; exact l1) (by rw [← rz.length]; exact l2)) q2⟩) hpl he) hdb)⟩
theorem g_callN0 (F : FnG X.prog X.w X.K X.mg X.base n fa fd ps sp) (hg : X.A.guards = some []) (hr : Room n X.A) (gl : Gl X x) (hm : X.mg x = some (.ref fa)) (hk : PySem.W.keepIn X.K (.ref fa) = true) (hb : KB X.K fd ps ks perm a b)
    (hkw : PK X kws tk) (hall : (backToKw pos (keywordEach kws X.env)).all (·.1.isSome) = true) (hks : (backToKw pos (keywordEach kws X.env)).filterMap (·.1) = ks) (hdb : (x == ("__debug__" : Str)) = false)
    (hpl : ((backTo pos (starEach [] X.env)).any (·.1) || (backToKw pos (keywordEach kws X.env)).any (·.1.isNone)) = false) : PE X (.Call (.Name x p) [] kws pos) (tCallN sp perm a b tNil tk) :=
  ⟨fun pins s σ H Q I h => wpAny_Call_Name_kw (ld_glob I gl hm (PySem.W.callWith_KW0 (h₀ := X.base) I.ok.mod.kin hk hall (thn (hkw.run pos pins s σ H _ I h) fun ws s2 ⟨zs, H2, I2, rz, l1, l2, q2⟩ => ⟨I2.kIn, by
      rw [hks]
      exact go_fn (ar := ⟨[], ks.zip ws⟩) F hg hr I2 (vals_perm rz perm) (fun _ => hb s2 [] ws I2.kIn l1 (by rw [← rz.length]; exact l2)) q2⟩) hpl) hdb)⟩
end
theorem PK.imp {kws : List Keyword} {t t' : TA} (h : PK X kws t) (i : ∀ σ H Q, t' σ H Q → t σ H Q) : PK X kws t' := ⟨fun pos pins s σ H Q I q => h.run pos pins s σ H Q I (i σ H Q q)⟩
theorem kw_nil : PK X [] (tKs A kd [] []) := PK.imp pk_nil fun σ H Q ⟨F, env, tm, ts, env', R, n, ev, q⟩ => by
  have ev : some (([] : List T), env) = some (ts, env') := ev
  cases ev
  exact q [] F H .nil (by rw [List.append_nil]; exact R) (Same.refl F)
theorem kval_imp {pk : List Kd} {x : Ir} {xs : List Ir} : ∀ σ H Q, tKs A kd (.own 0 :: pk) (x :: xs) σ H Q → tCons (tF A kd 0 x) (tKs A kd pk xs) σ H Q := fun σ H Q ⟨F, env, tm, us, env', R, n, ev, q⟩ => by
  obtain ⟨t, env1, ts, h1, h2, rfl⟩ := evEs_cons ev
  refine ⟨F, env, tm, t, env1, R, NoT.of n, h1, fun v F1 H1 R1 s1 => ?_⟩
  refine ⟨F1, env1, tm ++ [⟨.own 0, t, v⟩], ts, env', R1, fun e he i z => ?_, h2, fun es' F2 H2 ks R2 s2 => ?_⟩
  · rcases List.mem_append.mp he with he | he
    · exact NoTs.tail n e he i z
    · have : e = ⟨.own 0, t, v⟩ := by simpa using he
      subst this
      cases z
  · exact q (⟨.own 0, t, v⟩ :: es') F2 H2 (.val ks) (by simpa using R2) (s1.trans s2)
theorem kbor_imp {pk : List Kd} {x : Ir} {xs : List Ir} (rd : rdK kd x = true) (st : stK A.io kd x xs = true) : ∀ σ H Q, tKs A kd (.bor :: pk) (x :: xs) σ H Q → tCons (tR A kd x) (tKs A kd pk xs) σ H Q := fun σ H Q ⟨F, env, tm, us, env', R, n, ev, q⟩ => by
  obtain ⟨t, env1, ts, h1, h2, rfl⟩ := evEs_cons ev
  refine ⟨F, env, tm, t, env1, R, NoT.of n, h1, fun k v F1 H1 kr R1 s1 => ?_⟩
  refine ⟨F1, env1, tm ++ [⟨k, t, v⟩], ts, env', R1, NoTs.on (NoTs.tail n) kr st, h2, fun es' F2 H2 ks R2 s2 => ?_⟩
  exact q (⟨k, t, v⟩ :: es') F2 H2 (.bor kr rd ks) (by simpa using R2) (s1.trans s2)
theorem kw_val {pk : List Kd} {x : Ir} {xs : List Ir} {e : Expr} {nm : Option Str} {kp : Pos} {kws : List Keyword} (he : PE X e (tF A kd 0 x)) (hr : PK X kws (tKs A kd pk xs)) : PK X (⟨nm, e, kp⟩ :: kws) (tKs A kd (.own 0 :: pk) (x :: xs)) := PK.imp (pk_cons he hr) kval_imp
theorem kw_bor {pk : List Kd} {x : Ir} {xs : List Ir} {e : Expr} {nm : Option Str} {kp : Pos} {kws : List Keyword} (he : PE X e (tR A kd x)) (rd : rdK kd x = true) (st : stK A.io kd x xs = true) (hr : PK X kws (tKs A kd pk xs)) : PK X (⟨nm, e, kp⟩ :: kws) (tKs A kd (.bor :: pk) (x :: xs)) := PK.imp (pk_cons he hr) (kbor_imp rd st)

/-- what is known of the arguments -/
theorem KAs.facts {F H : Hp} {env : Env} {σ : L2.St} {pk : List Kd} {xs : List Ir} {ts : List T} {es : List Ent} (h : KAs kd pk xs ts es) : ∀ {tm : List Ent}, SR A kd F H env σ (tm ++ es) →
    ∀ (k : Nat) (kk : Kd), pk[k]? = some kk → ∃ t v, ts[k]? = some t ∧ (es.map (·.v))[k]? = some v ∧ EntR A.K H F H kk t v [] := by
  induction h with
  | nil => intro tm R k kk hk; simp at hk
  | @val pks x xs t ts v es ks ih =>
    intro tm R k kk hk
    have R1 : SR A kd F H env σ ((tm ++ [⟨.own 0, t, v⟩]) ++ es) := by simpa using R
    cases k with
    | zero =>
      cases hk
      exact ⟨t, v, rfl, rfl, rfl, R1.pops.rep last_get⟩
    | succ k =>
      obtain ⟨t', v', a, b, c⟩ := ih R1 k kk (by simpa using hk)
      exact ⟨t', v', by simpa using a, by simpa using b, c⟩
  | @bor pks x xs t ts k0 v es kr rd ks ih =>
    intro tm R k kk hk
    have R1 : SR A kd F H env σ ((tm ++ [⟨k0, t, v⟩]) ++ es) := by simpa using R
    cases k with
    | zero =>
      cases hk
      refine ⟨t, v, rfl, rfl, rfl, ?_⟩
      rcases kr with rfl | ⟨i, rfl, rfl, _⟩
      · exact Bor.of (R1.pops.rep last_get) R1.lay.fh
      · obtain ⟨k', h1, h2, h3⟩ := R1.pops.alias last_get
        have he' : (slotsOf kd env σ ++ (tm ++ [⟨.al i, t, v⟩]))[i]? = some ⟨k', t, v⟩ := by
          rw [List.getElem?_append_left (lt_of_get h2)]; exact h2
        obtain ⟨al, e1⟩ := R1.pops.lay.ent he'
        refine e1.bor ?_ R1.lay.fh R1.lay.gh fun _ _ => rfl
        have rd : (match kd[i]? with | some k => k.reads | none => false) = true := rd
        rw [h3] at rd; exact rd
    | succ k =>
      obtain ⟨t', v', a, b, c⟩ := ih R1 k kk (by simpa using hk)
      exact ⟨t', v', by simpa using a, by simpa using b, c⟩
  | @scr pks i xs t ts v es hk0 ks ih =>
    intro tm R k kk hk
    have R1 : SR A kd F H env σ ((tm ++ [⟨.al i, t, v⟩]) ++ es) := by simpa using R
    cases k with
    | zero =>
      cases hk
      obtain ⟨k', h1, h2, h3⟩ := R1.pops.alias last_get
      rw [hk0] at h3
      cases h3
      have h4 : (slotsOf kd env σ ++ tm)[i]? = some ⟨.scr, t, v⟩ := by
        rw [List.getElem?_append_left (by rw [R.slen]; exact h1)]; exact h2
      obtain ⟨al, e1⟩ := R1.pops.pops.lay.ent h4
      obtain ⟨_, a, ns, e2, e3, e4⟩ := (show al = [] ∧ ∃ (a : Addr) (ns : List Int), t = .lst (ns.map T.int) ∧ v = .ref a ∧ SqL A.K A.G a (ns.map V.int) from e1)
      exact ⟨t, v, rfl, rfl, rfl, a, ns, e2, e3, R.lay.gh.seq e4⟩
    | succ k =>
      obtain ⟨t', v', a, b, c⟩ := ih R1 k kk (by simpa using hk)
      exact ⟨t', v', by simpa using a, by simpa using b, c⟩
theorem KAs.append {pk pk2 : List Kd} {xs xs2 : List Ir} {ts ts2 : List T} {es es2 : List Ent} (h : KAs kd pk xs ts es) (h2 : KAs kd pk2 xs2 ts2 es2) : KAs kd (pk ++ pk2) (xs ++ xs2) (ts ++ ts2) (es ++ es2) := by
  induction h with
  | nil => exact h2
  | val _ ih => exact .val ih
  | bor a b _ ih => exact .bor a b ih
  | scr a _ ih => exact .scr a ih
theorem evEs_app {C : Cal} : ∀ {xs ys : List Ir} {env env' : Env} {ts : List T}, evEs C (xs ++ ys) env = some (ts, env') → ∃ us env1 vs, evEs C xs env = some (us, env1) ∧ evEs C ys env1 = some (vs, env') ∧ ts = us ++ vs
  | [], ys, env, env', ts, h => ⟨[], env, ts, rfl, h, rfl⟩
  | x :: xs, ys, env, env', ts, h => by
    obtain ⟨t, e1, us, h1, h2, rfl⟩ := evEs_cons (show evEs C (x :: (xs ++ ys)) env = some (ts, env') from h)
    obtain ⟨vs, e2, ws, h3, h4, rfl⟩ := evEs_app h2
    refine ⟨t :: vs, e2, ws, ?_, h4, rfl⟩
    unfold evEs
    rw [h1]
    show (do let (xs, env) ← evEs C xs e1; some (t :: xs, env)) = _
    rw [h3]; rfl
theorem evE_callk {C : Cal} {f : Nat} {as : List Ir} {perm : List Nat} {env env' : Env} {t : T} (h : evE C (.callk f as perm) env = some (t, env')) : ∃ ts out, evEs C as env = some (ts, env') ∧ C f (permV .non perm ts) = some (t, out) := by
  unfold evE at h
  obtain ⟨⟨ts, e1⟩, h1, h⟩ := bind_some h
  obtain ⟨⟨r, out⟩, h2, h⟩ := bind_some h
  cases h
  exact ⟨ts, out, h1, h2⟩
theorem aEnts_mem : ∀ {pk : List Kd} {ts : List T} {vs : List V} {e : Ent}, e ∈ aEnts pk ts vs → ∃ j : Nat, pk[j]? = some e.k ∧ ts[j]? = some e.t ∧ vs[j]? = some e.v
  | [], _, _, e, h => by cases h
  | _ :: _, [], _, e, h => by cases h
  | _ :: _, _ :: _, [], e, h => by cases h
  | k :: pk, t :: ts, v :: vs, e, h => by
    rcases List.mem_cons.mp (show e ∈ ⟨k, t, v⟩ :: aEnts pk ts vs from h) with rfl | h
    · exact ⟨0, rfl, rfl, rfl⟩
    · obtain ⟨j, a, b, c⟩ := aEnts_mem h
      exact ⟨j + 1, by simpa using a, by simpa using b, by simpa using c⟩
/-- the arguments' kinds as they are written -/
def pkW (pk : List Kd) (perm : List Nat) (m : Nat) : List Kd := (List.range m).map fun k => (pk[perm.findIdx (· == k)]?).getD .un
/-- the parameters' kinds are those of the arguments, put so -/
def okPerm (pk : List Kd) (pkW : List Kd) (perm : List Nat) : Bool := perm.length == pk.length && (List.range perm.length).all fun j => decide (pk[j]? = (perm[j]?).bind fun k => pkW[k]?)
theorem NoTs.onK {xs2 : List Ir} {pk : List Kd} {xs : List Ir} {ts : List T} {es : List Ent} (h : KAs kd pk xs ts es) : ∀ {tm : List Ent}, NoTs A xs2 tm → (xs.all fun x => stK A.io kd x xs2) = true → NoTs A xs2 (tm ++ es) := by
  induction h with
  | nil => intro tm n _; rw [List.append_nil]; exact n
  | @val pks x xs t ts v es ks ih =>
    intro tm n hs
    have hs' : stK A.io kd x xs2 = true ∧ (xs.all fun x => stK A.io kd x xs2) = true := by simpa using hs
    have := ih (tm := tm ++ [⟨.own 0, t, v⟩]) (fun e he i z => by
      rcases List.mem_append.mp he with he | he
      · exact n e he i z
      · have : e = ⟨.own 0, t, v⟩ := by simpa using he
        subst this
        cases z) hs'.2
    simpa using this
  | @bor pks x xs t ts k v es kr rd ks ih =>
    intro tm n hs
    have hs' : stK A.io kd x xs2 = true ∧ (xs.all fun x => stK A.io kd x xs2) = true := by simpa using hs
    have := ih (tm := tm ++ [⟨k, t, v⟩]) (NoTs.on n kr hs'.1) hs'.2
    simpa using this
  | @scr pks i xs t ts v es hk ks ih =>
    intro tm n hs
    have hs' : stK A.io kd (.nm i) xs2 = true ∧ (xs.all fun x => stK A.io kd x xs2) = true := by simpa using hs
    have := ih (tm := tm ++ [⟨.al i, t, v⟩]) (NoTs.on (x := .nm i) n (.inr ⟨i, rfl, rfl, by rw [hk]; exact fun z => by cases z⟩) hs'.1) hs'.2
    simpa using this
theorem callk_imp {tbl : List Fn} {sig : List Sig} {n f : Nat} {s : Sig} {pk1 pk2 : List Kd} {as1 as2 : List Ir} {perm : List Nat} (hK : A.K = X.K) (hC : A.C = callN tbl n) (hs : sig[f]? = some s) (hn : noIo s.pk = true) (hal : pkOk s.pk = true) (hp : okPerm s.pk (pk1 ++ pk2) perm = true) (hst : (as1.all fun x => stK A.io kd x as2) = true) :
    ∀ σ H Q, tF A kd s.rk (.callk f (as1 ++ as2) perm) σ H Q → tCallN (spF X.K tbl sig n f) perm pk1.length pk2.length (tKs A kd pk1 as1) (tKs A kd pk2 as2) σ H Q := fun σ H Q ⟨F, env, tm, t, env', R, nn, ev, q⟩ => by
  obtain ⟨ts, out, h1, h2⟩ := evE_callk ev
  obtain ⟨us, env1, ws, h3, h4, rfl⟩ := evEs_app h1
  have n0 : NoTs A (as1 ++ as2) tm := nn
  have split : ∀ (xs ys : List Ir) (i : Nat), tchEs A.io i (xs ++ ys) = (tchEs A.io i xs || tchEs A.io i ys) := fun xs ys i => by
    induction xs with
    | nil => rfl
    | cons x xs ih =>
      show (tchE A.io i x || tchEs A.io i (xs ++ ys)) = (tchE A.io i x || tchEs A.io i xs || tchEs A.io i ys)
      rw [ih, Bool.or_assoc]
  have n1 : NoTs A as1 tm := fun e he i z => (Bool.or_eq_false_iff.mp ((split as1 as2 i).symm.trans (n0 e he i z))).1
  have n2 : NoTs A as2 tm := fun e he i z => (Bool.or_eq_false_iff.mp ((split as1 as2 i).symm.trans (n0 e he i z))).2
  refine ⟨F, env, tm, us, env1, R, n1, h3, fun es1 F1 H1 ks1 R1 s1 => ?_⟩
  refine ⟨F1, env1, tm ++ es1, ws, env', R1, NoTs.onK ks1 n2 hst, h4, fun es2 F2 H2 ks2 R2 s2 => ?_⟩
  have R2' : SR A kd F2 H2 env' σ (tm ++ (es1 ++ es2)) := by rw [← List.append_assoc]; exact R2
  have ks := ks1.append ks2
  have fc := ks.facts R2'
  refine ⟨by rw [List.length_map]; exact ks1.len.2, by rw [List.length_map]; exact ks2.len.2, ?_⟩
  rw [← hK]
  obtain ⟨hp1, hp2⟩ := Bool.and_eq_true_iff.mp hp
  have hpl : perm.length = s.pk.length := by simpa using hp1
  have fh := R2.lay.fh
  have L : Lay A.K H2 F2 H2 (aEnts s.pk (permV .non perm (us ++ ws)) (permV .non perm (es1.map (·.v) ++ es2.map (·.v)))) := by
    refine Lay.plain fh (Same.refl H2) fun e he => ?_
    obtain ⟨j, a1, a2, a3⟩ := aEnts_mem he
    have hj : j < perm.length := by rw [hpl]; exact lt_of_get a1
    have hpj := of_decide_eq_true (List.all_eq_true.mp hp2 j (List.mem_range.mpr hj))
    rw [a1, List.getElem?_eq_getElem hj] at hpj
    have hpj : some e.k = (pk1 ++ pk2)[perm[j]]? := hpj
    obtain ⟨t', v', b1, b2, b3⟩ := fc perm[j] e.k hpj.symm
    have c2 : e.t = t' := by
      unfold permV at a2
      rw [List.getElem?_map, List.getElem?_eq_getElem hj] at a2
      have a2 : some ((us ++ ws).getD perm[j] T.non) = some e.t := a2
      rw [List.getD_eq_getElem?_getD, b1] at a2
      exact (Option.some.inj a2).symm
    have c3 : e.v = v' := by
      unfold permV at a3
      rw [List.getElem?_map, List.getElem?_eq_getElem hj] at a3
      have a3 : some ((es1.map (·.v) ++ es2.map (·.v)).getD perm[j] V.non) = some e.v := a3
      rw [← List.map_append, List.getD_eq_getElem?_getD, b2] at a3
      exact (Option.some.inj a3).symm
    rw [c2, c3]
    refine ⟨b3, fun i z => ?_⟩
    have := pkOk_nm hal e.k (List.mem_of_getElem? a1)
    rw [z] at this
    cases this
  refine ⟨s, F2, H2, permV .non perm (us ++ ws), t, out, hs, ?_, ?_, L, by rw [← hC]; exact h2, fun v F' H' hE sF new => ?_⟩
  · unfold permV; rw [List.length_map]; exact hpl
  · unfold permV; rw [List.length_map]; exact hpl
  · have R3 := R2'.pops
    have L2 := R3.lay.call0 F' H' s.rk t v (hE.plain hn) sF new
    exact q v F' H' (R3.pushes (fun a ha => by
      rcases new a ha with z | z
      · exact .inl z
      · exact .inr (R3.lay.gh.free z)) L2) ((s1.trans s2).trans sF)
end
end Pv
end

section
set_option Elab.async false
set_option linter.all false
set_option maxRecDepth 100000
/-! PvY: the context of a text that is checked; facts by the heads of expressions. -/
namespace Pv
open PySem PySem.Spec PyProof.Rows L2

def noStar : Expr → Bool
  | .Starred _ _ => false
  | _ => true
theorem starEach_of {e : Expr} {es : List Expr} {env : PySem.Env} (h : noStar e = true) : starEach (e :: es) env = (false, eval e env) :: starEach es env := by
  cases e <;> first | rfl | cases h
theorem noneStar {es : List Expr} {env : PySem.Env} {pos : Pos} (h : es.all noStar = true) : (backTo pos (starEach es env)).any (·.1) = false := by
  induction es with
  | nil => rfl
  | cons e es ih =>
    have h' : noStar e = true ∧ es.all noStar = true := by simpa using h
    rw [starEach_of h'.1]
    show (false || (backTo pos (starEach es env)).any (·.1)) = false
    rw [ih h'.2]; rfl
/-- a test by its value -/
def byVal : Expr → Bool
  | .Name _ _ => true
  | .Call _ _ _ _ => true
  | .Subscript _ _ _ => true
  | .BinOp _ _ _ _ => true
  | .Constant _ _ _ => true
  | .ListComp _ _ _ _ => true
  | _ => false
theorem byVal_of {e : Expr} {env : PySem.Env} (h : byVal e = true) : ∀ whole, isTrue e env whole = (do let v ← whole; standAt e.pos; holding [v] (truthy v)) := by
  intro whole
  cases e <;> first | rfl | cases h
def plainIx : Expr → Bool
  | .Slice _ _ _ _ => false
  | _ => true
theorem plainIx_of {e : Expr} (h : plainIx e = true) : PlainIx e := by
  intro o i
  cases e <;> first | rfl | cases h
def notSet : Expr → Bool
  | .Set _ _ _ => false
  | _ => true
theorem notSet_of {e : Expr} {env : PySem.Env} (h : notSet e = true) : ∀ x, foldedSetIterable e env x = pure x := by
  intro x
  cases e <;> first | rfl | cases h
def notComp : Expr → Bool
  | .ListComp _ _ _ _ => false
  | .SetComp _ _ _ _ => false
  | .DictComp _ _ _ _ _ => false
  | _ => true
theorem notComp_of {e : Expr} {t : Option Expr} {l : Nat} {env : PySem.Env} (h : notComp e = true) : swapsWith e t l env = pure false := by
  cases e <;> first | rfl | cases h
def notTup : Expr → Bool
  | .Tuple _ _ _ => false
  | _ => true
theorem notTup_of {e : Expr} {ts : List Expr} {env : PySem.Env} (h : notTup e = true) : swappedStores ts e env = pure none := by
  unfold swappedStores
  split
  · rename_i h1
    split at h1
    · cases h
    · cases h
    · cases h1
  · rfl

/-! ### scopes -/
def visB (sc : Scope) (x : Str) : Bool := match sc.names.lookup x with
  | some .local => true
  | some .cell => true
  | some .free => true
  | _ => false
def locB (sc : Scope) (x : Str) : Bool := match sc.names.lookup x with
  | some .local => true
  | some .cell => true
  | _ => false
def lclB (sc : Scope) (x : Str) : Bool := match sc.names.lookup x with
  | some .local => true
  | _ => false
def glB (sc : Scope) (x : Str) : Bool := match sc.names.lookup x with
  | some .globalImplicit => true
  | _ => false
/-- what is known of the whole text -/
structure Glb where
  fns : List Str
  sig : List Sig
  blt : List Str
  kw : List (Nat × List Str × Nat × List Nat)
def io0 : Nat → Nat → Bool := fun _ _ => false
structure XOk (G : Glb) (tbl : List Fn) (A : Act) (n : Nat) (N : List Str) (sc : Scope) (X : Cx) : Prop where
  hK : A.K = X.K
  hC : A.C = callN tbl n
  hio : A.io = io0
  hN : X.N = N
  nd : N.Nodup
  calm : X.calm = true
  gd : X.A.guards = some []
  room : Room n X.A
  po : PassesOwn (model X.prog X.w) X.A X.env X.xe
  kind : X.env.scope.kind = .function
  vis : ∀ x, visB sc x = true → Vis X.env.scope x
  loc : ∀ x, locB sc x = true → L2.Loc X.env.scope x ∧ (X.fn x = true ∨ X.env.scope.names.lookup x = some .local)
  lcl : ∀ x, lclB sc x = true → X.env.scope.names.lookup x = some .local
  gl : ∀ x, glB sc x = true → Gl X x
  clo : ∀ x, (sc.names.lookup x = some .cell ∨ sc.names.lookup x = some .free) → (X.env.scope.names.lookup x = some .cell ∨ X.env.scope.names.lookup x = some .free)
  fns : ∀ (f : Nat) (x : Str), G.fns[f]? = some x → ∃ fa fd ps, FnG X.prog X.w X.K X.mg X.base n fa fd ps (spF X.K tbl G.sig n f) ∧ X.mg x = some (.ref fa) ∧ PySem.W.keepIn X.K (.ref fa) = true ∧ L2.Binds X.K fd ps [] ∧ ∀ ks a perm, (f, ks, a, perm) ∈ G.kw → KB X.K fd ps ks perm a ks.length
  blt : ∀ x ∈ G.blt, X.mg x = none

section
variable {G : Glb} {tbl : List Fn} {A : Act} {n : Nat} {N : List Str} {sc : Scope} {X : Cx}
theorem XOk.units (O : XOk G tbl A n N sc X) : X.A.units + 65 < cLine := by
  have := O.room.un
  omega
theorem lookup_mapK {g : Str → NameKind → NameKind} : ∀ {names : List (Str × NameKind)} {x : Str}, (names.map fun (n, k) => (n, g n k)).lookup x = (names.lookup x).map (g x)
  | [], _ => rfl
  | (n, k) :: r, x => by
    rw [List.map_cons]
    by_cases h : x == n
    · have e : x = n := by simpa using h
      subst e
      simp [List.lookup]
    · have h' : (x == n) = false := by simpa using h
      simp only [List.lookup, h']
      exact lookup_mapK
theorem relabel_lookup {scope : Scope} {env : PySem.Env} {x : Str} : (relabel scope env).names.lookup x = (scope.names.lookup x).map fun k => if (k == .free && env.scope.kind == .function && env.kindOf x == some .cell) = true then .cell else k := by
  unfold relabel
  rw [← lookup_mapK (g := fun n k => if (k == .free && env.scope.kind == .function && env.kindOf n == some .cell) = true then .cell else k)]
  congr 1
  apply List.map_congr_left
  rintro ⟨n, k⟩ _
  show (if (k == .free && env.scope.kind == .function && env.kindOf n == some .cell) = true then (n, NameKind.cell) else (n, k)) = (n, if (k == .free && env.scope.kind == .function && env.kindOf n == some .cell) = true then NameKind.cell else k)
  by_cases c : (k == .free && env.scope.kind == .function && env.kindOf n == some .cell) = true
  · rw [if_pos c, if_pos c]
  · rw [if_neg c, if_neg c]
theorem rl_local (b c : Bool) : (if (NameKind.local == .free && b && c) = true then NameKind.cell else NameKind.local) = .local := by cases b <;> cases c <;> decide
theorem rl_cell (b c : Bool) : (if (NameKind.cell == .free && b && c) = true then NameKind.cell else NameKind.cell) = .cell := by split <;> rfl
theorem rl_glob (b c : Bool) : (if (NameKind.globalImplicit == .free && b && c) = true then NameKind.cell else NameKind.globalImplicit) = .globalImplicit := by cases b <;> cases c <;> decide
theorem blkOk_of {scope : Scope} {own : List (Str × Nat)} (O : XOk G tbl A n N sc X) (h : blkC N sc scope own = true) : BlkOk X.N X.env.scope scope own := by
  have b := blkOk_by h
  rw [O.hN]
  exact ⟨b.kind, b.uniq, b.ix, fun y hy e => O.clo _ (b.free y hy e), b.own⟩
theorem XOk.blk (O : XOk G tbl A n N sc X) {scope : Scope} (hk : (match scope.kind with | .function => true | _ => false) = true) (s : Shared) (H : Hp) (C : Addr) (cl : List (Str × Addr)) (fp : List Addr) : XOk G tbl A n N scope (X.blk s H scope (compEnvC scope cl C X.env) fp) where
  hK := O.hK
  hC := O.hC
  hio := O.hio
  hN := O.hN
  nd := O.nd
  calm := O.calm
  gd := O.gd
  room := O.room
  po := PassesOwn.never
  kind := by
    show scope.kind = .function
    cases e : scope.kind <;> first | rfl | (rw [e] at hk; cases hk)
  vis := fun x h => by
    show Vis (relabel scope X.env) x
    unfold visB at h
    unfold Vis
    rw [relabel_lookup]
    split at h
    · rename_i e; rw [e]; exact .inl (congrArg some (rl_local _ _))
    · rename_i e; rw [e]; exact .inr (.inl (congrArg some (rl_cell _ _)))
    · rename_i e; rw [e, Option.map_some]
      split
      · exact .inr (.inl rfl)
      · exact .inr (.inr rfl)
    · cases h
  loc := fun x h => by
    show L2.Loc (relabel scope X.env) x ∧ ((scope.names.lookup x == some .cell) = true ∨ (relabel scope X.env).names.lookup x = some .local)
    unfold locB at h
    unfold L2.Loc
    rw [relabel_lookup]
    split at h
    · rename_i e; rw [e]; exact ⟨.inl (congrArg some (rl_local _ _)), .inr (congrArg some (rl_local _ _))⟩
    · rename_i e; rw [e]; exact ⟨.inr (congrArg some (rl_cell _ _)), .inl rfl⟩
    · cases h
  lcl := fun x h => by
    show (relabel scope X.env).names.lookup x = some .local
    unfold lclB at h
    rw [relabel_lookup]
    split at h
    · rename_i e; rw [e]; exact congrArg some (rl_local _ _)
    · cases h
  gl := fun x h => by
    show (relabel scope X.env).names.lookup x = some .globalImplicit
    unfold glB at h
    rw [relabel_lookup]
    split at h
    · rename_i e; rw [e]; exact congrArg some (rl_glob _ _)
    · cases h
  clo := fun x h => by
    show (relabel scope X.env).names.lookup x = some .cell ∨ (relabel scope X.env).names.lookup x = some .free
    rw [relabel_lookup]
    rcases h with e | e
    · rw [e]; exact .inl (congrArg some (rl_cell _ _))
    · rw [e, Option.map_some]
      split
      · exact .inl rfl
      · exact .inr rfl
  fns := O.fns
  blt := O.blt
end

/-! ### names -/
def nmOk (N : List Str) (sc : Scope) (x : Str) (i : Nat) : Bool := decide (N[i]? = some x) && visB sc x && !(x == ("__debug__" : Str)) && !(x == ("__classdict__" : Str))
theorem nmOk_of {N : List Str} {sc : Scope} {x : Str} {i : Nat} (h : nmOk N sc x i = true) : N[i]? = some x ∧ visB sc x = true ∧ (x == ("__debug__" : Str)) = false ∧ (x == ("__classdict__" : Str)) = false := by
  unfold nmOk at h
  simp only [Bool.and_eq_true, Bool.not_eq_true'] at h
  exact ⟨of_decide_eq_true h.1.1.1, h.1.1.2, h.1.2, h.2⟩
/-- a global name that is called -/
def glOk (sc : Scope) (x : Str) : Bool := glB sc x && !(x == ("__debug__" : Str)) && !decide (x = ("__name__" : Str))
theorem glOk_of {sc : Scope} {x : Str} (h : glOk sc x = true) : glB sc x = true ∧ (x == ("__debug__" : Str)) = false ∧ x ≠ ("__name__" : Str) := by
  unfold glOk at h
  simp only [Bool.and_eq_true, Bool.not_eq_true'] at h
  exact ⟨h.1.1, h.1.2, of_decide_eq_false h.2⟩
end Pv
end

section
set_option Elab.async false
set_option linter.all false
set_option maxRecDepth 100000
/-! PvZ: the check that a text is an IR's text. -/
namespace Pv
open PySem PySem.Spec PyProof.Rows L2

def kwName : Keyword → Option Str
  | ⟨n, _, _⟩ => n
def conOk (e : Expr) (t : T) : Bool := match t with
  | .non => (match e with | .Constant .none _ _ => true | _ => false)
  | .bl b => (match e with | .Constant (.bool c) _ _ => b == c | _ => false)
  | .int i => (match e with | .Constant (.int j) _ _ => decide (i = j) | _ => false)
  | .str l => (match e with | .Constant (.str s) _ _ => decide (s = ⟨l.toArray⟩) && strOkL l && okLen l.length | _ => false)
  | _ => false
def opOk : Op → Operator → Bool
  | .add, .Add => true
  | .sub, .Sub => true
  | .mul, .Mult => true
  | .fdiv, .FloorDiv => true
  | .mod, .Mod => true
  | .pow, .Pow => true
  | .shl, .LShift => true
  | .shr, .RShift => true
  | .band, .BitAnd => true
  | _, _ => false
def cmOk : Cm → CmpOp → Bool
  | .eq, .Eq => true
  | .ne, .NotEq => true
  | .lt, .Lt => true
  | .le, .LtE => true
  | .gt, .Gt => true
  | .ge, .GtE => true
  | .isin, .In => true
  | .notin, .NotIn => true
  | .is, .Is => true
  | .isnot, .IsNot => true
  | _, _ => false
def own0 (kd : List Kd) (i : Nat) : Bool := match kd[i]? with
  | some (.own 0) => true
  | _ => false
theorem own0_of {kd : List Kd} {i : Nat} (h : own0 kd i = true) : kd[i]? = some (.own 0) := by
  unfold own0 at h
  split at h
  · assumption
  · cases h
def scrB (kd : List Kd) (i : Nat) : Bool := match kd[i]? with
  | some .scr => true
  | _ => false
theorem scrB_of {kd : List Kd} {i : Nat} (h : scrB kd i = true) : kd[i]? = some .scr := by
  unfold scrB at h
  split at h
  · assumption
  · cases h
/-- the script -/
def scrE (kd : List Kd) : Ir → Bool
  | .nm i => scrB kd i
  | _ => false
def biName : Bi → Str
  | .len => "len"
  | .list => "list"
  | .tuple => "tuple"
  | .sorted => "sorted"
  | .sum => "sum"
  | .all => "all"
  | .any => "any"
  | .repr => "repr"
  | .int => "int"
  | .min2 => "min"
  | .max2 => "max"
  | .abs => "abs"
def isCon (e : Expr) (k : Int) : Bool := match e with
  | .Constant (.int j) _ _ => decide (j = k)
  | .UnaryOp .USub (.Constant (.int j) _ _) _ => decide (-j = k)
  | _ => false

section
variable (G : Glb) (N : List Str)
/-- a built-in's name -/
def blOk (sc : Scope) (x y : Str) : Bool := decide (x = y) && glOk sc x && G.blt.contains x
def fnOk (sc : Scope) (x : Str) (f : Nat) : Bool := decide (G.fns[f]? = some x) && glOk sc x
def ckTgs (sc : Scope) : List Expr → List Nat → Bool
  | [], [] => true
  | .Name y _ :: es, i :: l => decide (N[i]? = some y) && locB sc y && ckTgs sc es l
  | _, _ => false
def ckTgS (sc : Scope) : List Expr → List Nat → Nat → List Nat → Bool
  | .Starred (.Name y _) _ :: es, [], s, b => decide (N[s]? = some y) && locB sc y && ckTgs N sc es b
  | .Name y _ :: es, i :: a, s, b => decide (N[i]? = some y) && locB sc y && ckTgS sc es a s b
  | _, _, _, _ => false
def ckTg (sc : Scope) (kd : List Kd) (d : Nat) (tg : Expr) (p : Pat) : Bool := match p with
  | .nm i => (match tg with | .Name y _ => decide (N[i]? = some y) && locB sc y && okSl kd [i] | _ => false)
  | .tup l => (match tg with | .Tuple es _ _ => ckTgs N sc es l && okSl kd l && d == 0 | _ => false)
  | .star a s b => (match tg with | .Tuple es _ _ => ckTgS N sc es a s b && okSl kd (a ++ s :: b) && d == 0 | _ => false)
mutual
def ckR : Nat → Scope → List Kd → Expr → Ir → Bool
  | 0, _, _, _, _ => false
  | k + 1, sc, kd, e, x => match x with
    | .nm i => (match e with | .Name y _ => nmOk N sc y i | _ => false)
    | x => ckF k sc kd 0 e x
def ckF : Nat → Scope → List Kd → Nat → Expr → Ir → Bool
  | 0, _, _, _, _, _ => false
  | k + 1, sc, kd, d, e, x => match x with
    | .nm i => d == 0 && (match e with | .Name y _ => nmOk N sc y i && own0 kd i | _ => false)
    | .con t => decide (d ≤ 1) && conOk e t
    | .bin o a b => decide (d ≤ 1) && (match e with | .BinOp ea po eb _ => opOk o po && ckR k sc kd ea a && ckR k sc kd eb b && rdK kd a && rdK kd b && stK io0 kd a [b] | _ => false)
    | .neg a => decide (d ≤ 1) && (match e with | .UnaryOp .USub ea _ => ckR k sc kd ea a && rdK kd a | _ => false)
    | .cmp c a b => decide (d ≤ 1) && (match e with | .Compare ea [op] [eb] _ => cmOk c op && ckR k sc kd ea a && ckR k sc kd eb b && rdK kd a && rdK kd b && stK io0 kd a [b] && !behindInMarks op eb | _ => false)
    | .cmp2 c c2 a b f => decide (d ≤ 1) && (match e with | .Compare ea [op, op2] [eb, ef] _ => cmOk c op && cmOk c2 op2 && ckR k sc kd ea a && ckR k sc kd eb b && ckR k sc kd ef f && rdK kd a && rdK kd b && rdK kd f && stK io0 kd a [b, f] && stK io0 kd b [f] && !lastMarks [op, op2] [eb, ef] | _ => false)
    | .not a => decide (d ≤ 1) && (match e with | .UnaryOp .Not ea _ => ckR k sc kd ea a && rdK kd a | _ => false)
    | .ite c a b => (match e with | .IfExp ec ea eb _ => ckT k sc kd ec c && ckF k sc kd d ea a && ckF k sc kd d eb b | _ => false)
    | .tup as => decide (d ≤ 1) && (match e with | .Tuple es _ _ => ckDs k sc kd 0 es as && okLen as.length | _ => false)
    | .lst as => (match e with | .List es _ => ckDs k sc kd (d - 1) es as && okLen as.length | _ => false)
    | .ix a b => d == 0 && (match e with | .Subscript ea eb _ => plainIx eb && ckR k sc kd ea a && ckR k sc kd eb b && rdK kd a && rdK kd b && stK io0 kd a [b] | _ => false)
    | .sl a lo hi => decide (d ≤ 1) && (match e with | .Subscript ea (.Slice el eh none _) _ => ckR k sc kd ea a && ckO k sc kd el lo && ckO k sc kd eh hi && (rdK kd a || scrE kd a) && stO io0 kd a lo hi | _ => false)
    | .rev a => decide (d ≤ 1) && (match e with | .Subscript ea (.Slice none none (some (.UnaryOp .USub (.Constant (.int 1) _ _) _)) _) _ => ckR k sc kd ea a && rdK kd a | _ => false)
    | .call f false as => (match e with
      | .Call (.Name g _) (e1 :: es) [] _ => fnOk G sc g f && (match G.sig[f]? with | some s => noIo s.pk && (d == s.rk || d == 0) && ckKs k sc kd s.pk (e1 :: es) as | none => false)
      | .Call (.Name g _) [] [] _ => fnOk G sc g f && (match G.sig[f]? with | some s => noIo s.pk && (d == s.rk || d == 0) && s.pk.isEmpty && as.isEmpty | none => false)
      | _ => false)
    | .call f true (.nm i :: as) => (match e with
      | .Call (.Name g _) (.Name y _ :: es) [] _ => fnOk G sc g f && nmOk N sc y i && (match G.sig[f]? with
        | some s => (match s.pk with
          | .io m :: pks => (d == s.rk || d == 0) && (match kd[i]? with | some (.own m') => m == m' | some (.io m') => m == m' | _ => false) && ckKs k sc kd pks es as && as.all fun x => match x with | .nm j => !(j == i) | _ => true
          | _ => false)
        | none => false)
      | _ => false)
    | .call _ true _ => false
    | .callk f as perm => (match e with
      | .Call (.Name g _) es kws _ => fnOk G sc g f && (match G.sig[f]? with
        | some s => noIo s.pk && pkOk s.pk && (d == s.rk || d == 0) &&
            ckKs k sc kd (pkW s.pk perm (es.length + kws.length) |>.take es.length) es (as.take es.length) && ckKw k sc kd ((pkW s.pk perm (es.length + kws.length)).drop es.length) kws (as.drop es.length) &&
            okPerm s.pk (pkW s.pk perm (es.length + kws.length)) perm && (as.take es.length).all (fun x => stK io0 kd x (as.drop es.length)) && G.kw.contains (f, kws.filterMap kwName, es.length, perm) && kws.all (fun w => (kwName w).isSome)
        | none => false)
      | _ => false)
    | .bi b as => decide (d ≤ 1) && (match e with | .Call (.Name g _) (e1 :: es) [] _ => blOk G sc g (biName b) && ckAs k sc kd (e1 :: es) as && as.all (rdK kd) | _ => false)
    | .lrg a => decide (d ≤ 1) && (match e with | .Call (.Name g _) [.Call (.Name r _) [e1] [] _] [] _ => blOk G sc g "list" && blOk G sc r "range" && noStar e1 && ckR k sc kd e1 a | _ => false)
    | .lc p it cs [] x => (match e with
      | .ListComp ee [⟨tg, ei, ifs, 0⟩] scope _ => ckI k sc kd tg ei it && notSet ei && ckTg N scope kd 0 tg p && ckCs k scope kd ifs cs && ckF k scope kd (d - 1) ee x &&
          blkC N sc scope (p.slots.map fun i => (N.getD i Str.empty, i)) && (match scope.kind with | .function => true | _ => false) && p.plain && p.slots.all (own0 kd)
      | _ => false)
    | .pop i none a => d == 0 && (match e with
      | .Call (.Attribute (.Name y _) m ap) es [] cp => decide (m = ("pop" : Str)) && nmOk N sc y i && mdK kd i 0 && ap.endLine == cp.line && (match es, a with
        | [], none => true
        | [e1], some a => noStar e1 && ckR k sc kd e1 a
        | _, _ => false)
      | _ => false)
    | .pop i (some p) none => d == 0 && (match e with
      | .Call (.Attribute (.Subscript (.Name y _) ek _) m ap) [] [] cp => decide (m = ("pop" : Str)) && nmOk N sc y i && mdK kd i 1 && ap.endLine == cp.line && plainIx ek && ckR k sc kd ek p
      | _ => false)
    | .app i none a => decide (d ≤ 1) && (match e with
      | .Call (.Attribute (.Name y _) m ap) [e1] [] cp => decide (m = ("append" : Str)) && nmOk N sc y i && ap.endLine == cp.line && noStar e1 && (match kd[i]? with | some (.own (q + 1)) => ckF k sc kd q e1 a | some (.io (q + 1)) => ckF k sc kd q e1 a | _ => false)
      | _ => false)
    | .app i (some p) a => decide (d ≤ 1) && (match e with
      | .Call (.Attribute (.Subscript (.Name y _) ek _) m ap) [e1] [] cp => decide (m = ("append" : Str)) && nmOk N sc y i && mdK kd i 1 && ap.endLine == cp.line && plainIx ek && ckR k sc kd ek p && noStar e1 && simE kd a && ckZ k sc kd e1 a
      | _ => false)
    | .rem i a => decide (d ≤ 1) && (match e with
      | .Call (.Attribute (.Name y _) m ap) [e1] [] cp => decide (m = ("remove" : Str)) && nmOk N sc y i && mdK kd i 0 && ap.endLine == cp.line && noStar e1 && ckR k sc kd e1 a
      | _ => false)
    | .ixs i q => decide (d ≤ 1) && (match e with | .Subscript (.Name y _) ek _ => nmOk N sc y i && (mdK kd i 0 || mdK kd i 1) && isCon ek q | _ => false)
    | .dne i q => decide (d ≤ 1) && (match e with | .Compare (.Subscript (.Name y _) ek _) [.NotEq] [.List [] _] _ => nmOk N sc y i && mdK kd i 1 && isCon ek q | _ => false)
    | _ => false
/-- a test -/
def ckT : Nat → Scope → List Kd → Expr → Ir → Bool
  | 0, _, _, _, _ => false
  | k + 1, sc, kd, e, x => match x with
    | .cmp c a b => (match e with | .Compare ea [op] [eb] _ => cmOk c op && ckR k sc kd ea a && ckR k sc kd eb b && rdK kd a && rdK kd b && stK io0 kd a [b] && !behindInMarks op eb | _ => false)
    | .cmp2 c c2 a b f => (match e with | .Compare ea [op, op2] [eb, ef] _ => cmOk c op && cmOk c2 op2 && ckR k sc kd ea a && ckR k sc kd eb b && ckR k sc kd ef f && rdK kd a && rdK kd b && rdK kd f && stK io0 kd a [b, f] && stK io0 kd b [f] && !lastMarks [op, op2] [eb, ef] | _ => false)
    | .dne i q => (match e with | .Compare (.Subscript (.Name y _) ek _) [.NotEq] [.List [] _] _ => nmOk N sc y i && mdK kd i 1 && isCon ek q | _ => false)
    | .not a => (match e with | .UnaryOp .Not ea _ => ckT k sc kd ea a | _ => false)
    | .and a b => (match e with | .BoolOp .And (e1 :: f :: r) _ => ckT k sc kd e1 a && ckWa k sc kd f r b | _ => false)
    | .or a b => (match e with | .BoolOp .Or (e1 :: f :: r) _ => ckT k sc kd e1 a && ckWo k sc kd f r b | _ => false)
    | x => byVal e && ckR k sc kd e x && rdK kd x
def ckWa : Nat → Scope → List Kd → Expr → List Expr → Ir → Bool
  | 0, _, _, _, _, _ => false
  | k + 1, sc, kd, f, r, x => match r with
    | [] => ckT k sc kd f x
    | g :: r => (match x with | .and a b => ckT k sc kd f a && ckWa k sc kd g r b | _ => false)
def ckWo : Nat → Scope → List Kd → Expr → List Expr → Ir → Bool
  | 0, _, _, _, _, _ => false
  | k + 1, sc, kd, f, r, x => match r with
    | [] => ckT k sc kd f x
    | g :: r => (match x with | .or a b => ckT k sc kd f a && ckWo k sc kd g r b | _ => false)
/-- items new down to d -/
def ckDs : Nat → Scope → List Kd → Nat → List Expr → List Ir → Bool
  | 0, _, _, _, _, _ => false
  | k + 1, sc, kd, d, es, as => match es, as with
    | [], [] => true
    | e :: es, x :: xs => noStar e && ckF k sc kd d e x && ckDs k sc kd d es xs
    | _, _ => false
def ckAs : Nat → Scope → List Kd → List Expr → List Ir → Bool
  | 0, _, _, _, _ => false
  | k + 1, sc, kd, es, as => match es, as with
    | [], [] => true
    | e :: es, x :: xs => noStar e && ckR k sc kd e x && stK io0 kd x xs && ckAs k sc kd es xs
    | _, _ => false
/-- a call's arguments by the parameters' kinds -/
def ckKs : Nat → Scope → List Kd → List Kd → List Expr → List Ir → Bool
  | 0, _, _, _, _, _ => false
  | k + 1, sc, kd, pk, es, as => match pk, es, as with
    | [], [], [] => true
    | .own 0 :: pk, e :: es, x :: xs => noStar e && ckF k sc kd 0 e x && ckKs k sc kd pk es xs
    | .bor :: pk, e :: es, x :: xs => noStar e && ckR k sc kd e x && rdK kd x && stK io0 kd x xs && ckKs k sc kd pk es xs
    | .scr :: pk, .Name y _ :: es, .nm i :: xs => nmOk N sc y i && scrB kd i && stK io0 kd (.nm i) xs && ckKs k sc kd pk es xs
    | _, _, _ => false
def ckKw : Nat → Scope → List Kd → List Kd → List Keyword → List Ir → Bool
  | 0, _, _, _, _, _ => false
  | k + 1, sc, kd, pk, es, as => match pk, es, as with
    | [], [], [] => true
    | .own 0 :: pk, ⟨_, e, _⟩ :: es, x :: xs => ckF k sc kd 0 e x && ckKw k sc kd pk es xs
    | .bor :: pk, ⟨_, e, _⟩ :: es, x :: xs => ckR k sc kd e x && rdK kd x && stK io0 kd x xs && ckKw k sc kd pk es xs
    | _, _, _ => false
def ckO : Nat → Scope → List Kd → Option Expr → Option Ir → Bool
  | 0, _, _, _, _ => false
  | k + 1, sc, kd, e, x => match e, x with
    | none, none => true
    | some e, some x => ckR k sc kd e x
    | _, _ => false
def ckI : Nat → Scope → List Kd → Expr → Expr → Wk → Bool
  | 0, _, _, _, _, _ => false
  | k + 1, sc, kd, tg, e, it => match it with
    | .ex x => ckR k sc kd e x && wkK kd x
    | .range a => (match e with | .Call (.Name r _) [e1] [] _ => blOk G sc r "range" && noStar e1 && ckR k sc kd e1 a | _ => false)
    | .range2 a b => (match e with | .Call (.Name r _) [e1, e2] [] _ => blOk G sc r "range" && noStar e1 && noStar e2 && ckR k sc kd e1 a && ckR k sc kd e2 b && stK io0 kd a [b] | _ => false)
    | .enum x => (match e with | .Call (.Name r _) [e1] [] _ => blOk G sc r "enumerate" && noStar e1 && ckR k sc kd e1 x && wkK kd x && !notTup tg | _ => false)
    | .zip x y => (match e with | .Call (.Name r _) [e1, e2] [] _ => blOk G sc r "zip" && noStar e1 && noStar e2 && ckR k sc kd e1 x && ckR k sc kd e2 y && wkK kd x && wkK kd y && stK io0 kd x [y] && !notTup tg | _ => false)
def ckCs : Nat → Scope → List Kd → List Expr → List Ir → Bool
  | 0, _, _, _, _ => false
  | k + 1, sc, kd, ifs, cs => match ifs, cs with
    | [], [] => true
    | [e], [c] => ckT k sc kd e c
    | _, _ => false
/-- a simple argument -/
def ckZ : Nat → Scope → List Kd → Expr → Ir → Bool
  | 0, _, _, _, _ => false
  | k + 1, sc, kd, e, x => match x with
    | .nm i => (match e with | .Name y _ => nmOk N sc y i && own0 kd i | _ => false)
    | .con t => conOk e t
    | .bin o a b => (match e with | .BinOp ea po eb _ => opOk o po && (match o with | .fdiv => true | .sub => true | .mod => true | _ => false) && ckZ k sc kd ea a && ckZ k sc kd eb b | _ => false)
    | _ => false
end
end
end Pv
end

section
set_option Elab.async false
set_option linter.all false
set_option maxRecDepth 100000
set_option maxHeartbeats 2000000
/-! PvZ2: the check is sound. -/
namespace Pv
open PySem PySem.Spec PyProof.Rows L2

section
variable {A : Act} {kd : List Kd} {X : Cx}
theorem tF_zero {m : Nat} {x : Ir} {e : Expr} (h : PE X e (tF A kd m x)) (hx : ∀ i, x ≠ .nm i) : PE X e (tF A kd 0 x) := tR_tF (tF_tR h) fun i z => absurd z (hx i)
theorem tF_le1 {d : Nat} {x : Ir} {e : Expr} (h : PE X e (tF A kd 1 x)) (hd : decide (d ≤ 1) = true) (hx : ∀ i, x ≠ .nm i) : PE X e (tF A kd d x) := by
  have hd := of_decide_eq_true hd
  rcases d with _ | _ | d
  · exact tF_zero h hx
  · exact h
  · omega
theorem tF_or {d m : Nat} {x : Ir} {e : Expr} (h : PE X e (tF A kd m x)) (hd : (d == m || d == 0) = true) (hx : ∀ i, x ≠ .nm i) : PE X e (tF A kd d x) := by
  rcases Bool.or_eq_true_iff.mp hd with z | z
  · have e : d = m := by simpa using z
    subst e; exact h
  · have e : d = 0 := by simpa using z
    subst e; exact tF_zero h hx
theorem op_rule {o : Op} {po : Operator} (h : opOk o po = true) : OpR X (binaryOp po) (rT2 X.K (opT o)) := by
  cases o <;> cases po <;> first | (cases h; done) | exact r_add | exact r_sub | exact r_mul | exact r_fdiv | exact r_mod | exact r_pow | exact r_shl | exact r_shr | exact r_band
theorem cm_eq : cmpT .eq = eqT := by funext a b; rfl
theorem cm_ne : cmpT .ne = fun a b => (eqT a b).map (!·) := by funext a b; rfl
theorem cm_lt : cmpT .lt = ltS := by funext a b; rfl
theorem cm_le : cmpT .le = leS := by funext a b; rfl
theorem cm_gt : cmpT .gt = gtS := by funext a b; rfl
theorem cm_ge : cmpT .ge = geS := by funext a b; rfl
theorem cm_in : cmpT .isin = inT := by funext a b; rfl
theorem cm_notin : cmpT .notin = fun a b => (inT a b).map (!·) := by funext a b; rfl
theorem cm_rule (hu : X.A.units + 65 < cLine) {c : Cm} {po : CmpOp} (h : cmOk c po = true) : OpR X (compareOp po) (rTc X.K (cmpT c)) := by
  cases c <;> cases po <;> first
    | (cases h; done)
    | (rw [cm_eq]; exact r_eq (by omega))
    | (rw [cm_ne]; exact r_ne (by omega))
    | (rw [cm_lt]; exact r_lt)
    | (rw [cm_le]; exact r_le)
    | (rw [cm_gt]; exact r_gt)
    | (rw [cm_ge]; exact r_ge)
    | (rw [cm_in]; exact r_in hu)
    | (rw [cm_notin]; exact r_notin hu)
    | exact r_is
    | exact r_isnot
theorem con_rule {e : Expr} {t : T} (h : conOk e t = true) : ∃ v, PE X e (tC v) ∧ (∀ F, Rep A.K F t v) ∧ t.mutable = false := by
  cases t with
  | non =>
    change (match (generalizing := false) e with | .Constant .none _ _ => true | _ => false) = true at h
    split at h
    · exact ⟨_, pe_non, fun _ => .non, rfl⟩
    · cases h
  | bl b =>
    change (match (generalizing := false) e with | .Constant (.bool c) _ _ => b == c | _ => false) = true at h
    split at h
    · rename_i c _ _
      have e : b = c := by simpa using h
      subst e
      exact ⟨_, pe_bl, fun _ => .bl _, rfl⟩
    · cases h
  | int i =>
    change (match (generalizing := false) e with | .Constant (.int c) _ _ => decide (i = c) | _ => false) = true at h
    split at h
    · have e := of_decide_eq_true h
      subst e
      exact ⟨_, pe_int, fun _ => .int _, rfl⟩
    · cases h
  | str l =>
    change (match (generalizing := false) e with | .Constant (.str s) _ _ => decide (s = ⟨l.toArray⟩) && strOkL l && okLen l.length | _ => false) = true at h
    split at h
    · simp only [Bool.and_eq_true] at h
      have e := of_decide_eq_true h.1.1
      subst e
      exact ⟨_, pe_str, fun _ => .str l h.1.2 h.2, rfl⟩
    · cases h
  | _ => cases h
theorem isCon_rule {e : Expr} {q : Int} (h : isCon e q = true) : PE X e (tC (.int q)) ∧ PlainIx e := by
  unfold isCon at h
  split at h
  · have e := of_decide_eq_true h
    subst e
    exact ⟨pe_int, fun _ _ => rfl⟩
  · have e := of_decide_eq_true h
    subst e
    refine ⟨⟨fun pins s σ H Q I hq => (pe_un un_neg pe_int).run pins s σ H Q I ⟨_, rfl, hq⟩⟩, fun _ _ => rfl⟩
  · cases h
end

/-- what the check, so deep, gives -/
structure Snd (G : Glb) (N : List Str) (tbl : List Fn) (k : Nat) : Prop where
  r : ∀ {A n sc kd X}, XOk G tbl A n N sc X → ∀ {e x}, ckR G N k sc kd e x = true → PE X e (tR A kd x)
  f : ∀ {A n sc kd X}, XOk G tbl A n N sc X → ∀ {d e x}, ckF G N k sc kd d e x = true → PE X e (tF A kd d x)
  t : ∀ {A n sc kd X}, XOk G tbl A n N sc X → ∀ {e x}, ckT G N k sc kd e x = true → PT X e (tT A kd x)
  wa : ∀ {A n sc kd X}, XOk G tbl A n N sc X → ∀ {f r x pos}, ckWa G N k sc kd f r x = true → PW X (.BoolOp .And (f :: r) pos) (tT A kd x)
  wo : ∀ {A n sc kd X}, XOk G tbl A n N sc X → ∀ {f r x pos}, ckWo G N k sc kd f r x = true → PW X (.BoolOp .Or (f :: r) pos) (tT A kd x)
  ds : ∀ {A n sc kd X}, XOk G tbl A n N sc X → ∀ {d es as}, ckDs G N k sc kd d es as = true → PA X es (tDs A kd (List.replicate as.length d) as) ∧ es.all noStar = true
  as : ∀ {A n sc kd X}, XOk G tbl A n N sc X → ∀ {es as}, ckAs G N k sc kd es as = true → PA X es (tRs A kd as) ∧ es.all noStar = true
  ks : ∀ {A n sc kd X}, XOk G tbl A n N sc X → ∀ {pk es as}, ckKs G N k sc kd pk es as = true → PA X es (tKs A kd pk as) ∧ es.all noStar = true
  kw : ∀ {A n sc kd X}, XOk G tbl A n N sc X → ∀ {pk es as}, ckKw G N k sc kd pk es as = true → PK X es (tKs A kd pk as)
  o : ∀ {A n sc kd X}, XOk G tbl A n N sc X → ∀ {e x}, ckO G N k sc kd e x = true → PO X e (tO A kd x)
  i : ∀ {A n sc kd X}, XOk G tbl A n N sc X → ∀ {tg e it}, ckI G N k sc kd tg e it = true → PI X tg e (tI A kd it)
  cs : ∀ {A n sc kd X}, XOk G tbl A n N sc X → ∀ {ifs cs}, ckCs G N k sc kd ifs cs = true → PTs X ifs (tCs A kd cs)
  z : ∀ {A n sc kd X}, XOk G tbl A n N sc X → ∀ {e x}, ckZ G N k sc kd e x = true → PE X e (tZ A kd x)

section
variable {G : Glb} {N : List Str} {tbl : List Fn} {k : Nat} {A : Act} {n : Nat} {sc : Scope} {kd : List Kd} {X : Cx}
theorem nm_rule (O : XOk G tbl A n N sc X) {y : Str} {p : Pos} {i : Nat} (h : nmOk N sc y i = true) : PE X (.Name y p) (tR A kd (.nm i)) := by
  obtain ⟨h1, h2, h3, h4⟩ := nmOk_of h
  exact s_nm (by rw [O.hN]; exact h1) (O.vis y h2) h3 h4
theorem bl_rule (O : XOk G tbl A n N sc X) {x y : Str} (h : blOk G sc x y = true) : x = y ∧ Gl X x ∧ X.mg x = none ∧ (x == ("__debug__" : Str)) = false ∧ x ≠ ("__name__" : Str) := by
  unfold blOk at h
  simp only [Bool.and_eq_true] at h
  obtain ⟨g1, g2, g3⟩ := glOk_of h.1.2
  exact ⟨of_decide_eq_true h.1.1, O.gl x g1, O.blt x (by simpa using h.2), g2, g3⟩
theorem names_rule (O : XOk G tbl A n N sc X) : ∀ {es : List Expr} {l : List Nat}, ckTgs N sc es l = true → PGs X es (gNames l) ∧ (assignEach es X.env).length = l.length ∧ (assignEach es X.env).findIdx? (·.1) = none
  | [], [], _ => ⟨pgs_nil, rfl, rfl⟩
  | e :: es, i :: l, h => by
    cases e with
    | Name y p =>
      have h : (decide (N[i]? = some y) && locB sc y && ckTgs N sc es l) = true := h
      simp only [Bool.and_eq_true] at h
      obtain ⟨⟨h1, h2⟩, h3⟩ := h
      obtain ⟨a, b, c⟩ := names_rule O h3
      obtain ⟨c1, c2⟩ := O.loc y h2
      refine ⟨pgs_cons (pg_name (by rw [O.hN]; exact O.nd) (by rw [O.hN]; exact of_decide_eq_true h1) c1 c2) a (by rfl), ?_, ?_⟩
      · show (assignEach es X.env).length + 1 = l.length + 1
        rw [b]
      · show ((false, assign (.Name y p) X.env) :: assignEach es X.env).findIdx? (·.1) = none
        rw [List.findIdx?_cons, c]; rfl
    | _ => cases h
  | [], _ :: _, h => by cases h
  | e :: _, [], h => by cases e <;> cases h
theorem star_rule (O : XOk G tbl A n N sc X) : ∀ {es : List Expr} {a : List Nat} {s : Nat} {b : List Nat}, ckTgS N sc es a s b = true → PGs X es (gNames (a ++ s :: b)) ∧ (assignEach es X.env).length = a.length + b.length + 1 ∧ (assignEach es X.env).findIdx? (·.1) = some a.length
  | [], a, s, b, h => by cases a <;> exact (Bool.false_ne_true h).elim
  | e :: es, [], s, b, h => by
    cases e with
    | Starred t p =>
      cases t with
      | Name y p2 =>
        have h : (decide (N[s]? = some y) && locB sc y && ckTgs N sc es b) = true := h
        simp only [Bool.and_eq_true] at h
        obtain ⟨⟨h1, h2⟩, h3⟩ := h
        obtain ⟨q1, q2, q3⟩ := names_rule O h3
        obtain ⟨c1, c2⟩ := O.loc y h2
        refine ⟨pgs_star (pg_name (by rw [O.hN]; exact O.nd) (by rw [O.hN]; exact of_decide_eq_true h1) c1 c2) q1, ?_, ?_⟩
        · show (assignEach es X.env).length + 1 = 0 + b.length + 1
          rw [q2]; omega
        · show ((true, assign (.Name y p2) X.env) :: assignEach es X.env).findIdx? (·.1) = some 0
          rw [List.findIdx?_cons]; rfl
      | _ => exact (Bool.false_ne_true h).elim
    | _ => exact (Bool.false_ne_true h).elim
  | e :: es, i :: a, s, b, h => by
    cases e with
    | Name y p =>
      have h : (decide (N[i]? = some y) && locB sc y && ckTgS N sc es a s b) = true := h
      simp only [Bool.and_eq_true] at h
      obtain ⟨⟨h1, h2⟩, h3⟩ := h
      obtain ⟨q1, q2, q3⟩ := star_rule O h3
      obtain ⟨c1, c2⟩ := O.loc y h2
      refine ⟨pgs_cons (pg_name (by rw [O.hN]; exact O.nd) (by rw [O.hN]; exact of_decide_eq_true h1) c1 c2) q1 (by rfl), ?_, ?_⟩
      · show (assignEach es X.env).length + 1 = (a.length + 1) + b.length + 1
        rw [q2]; omega
      · show ((false, assign (.Name y p) X.env) :: assignEach es X.env).findIdx? (·.1) = some (a.length + 1)
        rw [List.findIdx?_cons, q3]; rfl
    | Starred t p => cases t <;> exact (Bool.false_ne_true h).elim
    | _ => exact (Bool.false_ne_true h).elim
theorem tg_rule (O : XOk G tbl A n N sc X) {d : Nat} {tg : Expr} {p : Pat} (h : ckTg N sc kd d tg p = true) : PG X tg (gT A kd d p) := by
  cases p with
  | nm i =>
    change (match (generalizing := false) tg with | .Name y _ => decide (N[i]? = some y) && locB sc y && okSl kd [i] | _ => false) = true at h
    split at h
    · simp only [Bool.and_eq_true] at h
      obtain ⟨⟨h1, h2⟩, h3⟩ := h
      obtain ⟨c1, c2⟩ := O.loc _ h2
      exact g_nm (pg_name (by rw [O.hN]; exact O.nd) (by rw [O.hN]; exact of_decide_eq_true h1) c1 c2) h3
    · cases h
  | tup l =>
    change (match (generalizing := false) tg with | .Tuple es _ _ => ckTgs N sc es l && okSl kd l && d == 0 | _ => false) = true at h
    split at h
    · simp only [Bool.and_eq_true] at h
      obtain ⟨⟨h1, h2⟩, h3⟩ := h
      have hd : d = 0 := by simpa using h3
      subst hd
      obtain ⟨a, b, c⟩ := names_rule O h1
      exact g_tup O.hK (pg_tup O.calm a b c) rfl h2
    · cases h
  | star a s b =>
    change (match (generalizing := false) tg with | .Tuple es _ _ => ckTgS N sc es a s b && okSl kd (a ++ s :: b) && d == 0 | _ => false) = true at h
    split at h
    · simp only [Bool.and_eq_true] at h
      obtain ⟨⟨h1, h2⟩, h3⟩ := h
      have hd : d = 0 := by simpa using h3
      subst hd
      obtain ⟨p1, p2, p3⟩ := star_rule O h1
      exact g_star O.hK (pg_star O.calm p1 p2 p3 (by omega)) h2
    · cases h
theorem hK' (O : XOk G tbl A n N sc X) : A.K = X.K := O.hK

theorem snd_r (S : Snd G N tbl k) (O : XOk G tbl A n N sc X) {e : Expr} {x : Ir} (h : ckR G N (k + 1) sc kd e x = true) : PE X e (tR A kd x) := by
  cases x with
  | nm i =>
    change (match (generalizing := false) e with | .Name y _ => nmOk N sc y i | _ => false) = true at h
    split at h
    · exact nm_rule O h
    · cases h
  | _ => exact tF_tR (S.f O h)
theorem snd_t (S : Snd G N tbl k) (O : XOk G tbl A n N sc X) {e : Expr} {x : Ir} (h : ckT G N (k + 1) sc kd e x = true) : PT X e (tT A kd x) := by
  have val : ∀ {x : Ir}, (byVal e && ckR G N k sc kd e x && rdK kd x) = true → PT X e (tT A kd x) := fun {x} h => by
    simp only [Bool.and_eq_true] at h
    exact s_test (S.r O h.1.2) h.2 O.hK (byVal_of h.1.1)
  cases x with
  | cmp c a b =>
    change (match (generalizing := false) e with | .Compare ea [op] [eb] _ => cmOk c op && ckR G N k sc kd ea a && ckR G N k sc kd eb b && rdK kd a && rdK kd b && stK io0 kd a [b] && !behindInMarks op eb | _ => false) = true at h
    split at h
    · simp only [Bool.and_eq_true, Bool.not_eq_true'] at h
      obtain ⟨⟨⟨⟨⟨⟨h1, h2⟩, h3⟩, h4⟩, h5⟩, h6⟩, h7⟩ := h
      exact t_cmp (cm_rule O.units h1) O.hK (S.r O h2) (S.r O h3) h4 h5 (by rw [O.hio]; exact h6) h7
    · cases h
  | cmp2 c c2 a b f =>
    change (match (generalizing := false) e with | .Compare ea [op, op2] [eb, ef] _ => cmOk c op && cmOk c2 op2 && ckR G N k sc kd ea a && ckR G N k sc kd eb b && ckR G N k sc kd ef f && rdK kd a && rdK kd b && rdK kd f && stK io0 kd a [b, f] && stK io0 kd b [f] && !lastMarks [op, op2] [eb, ef] | _ => false) = true at h
    split at h
    · simp only [Bool.and_eq_true, Bool.not_eq_true'] at h
      obtain ⟨⟨⟨⟨⟨⟨⟨⟨⟨⟨h1, h2⟩, h3⟩, h4⟩, h5⟩, h6⟩, h7⟩, h8⟩, h9⟩, h10⟩, h11⟩ := h
      exact t_cmp2 (cm_rule O.units h1) (cm_rule O.units h2) O.hK (S.r O h3) (S.r O h4) (S.r O h5) h6 h7 h8 (by rw [O.hio]; exact h9) (by rw [O.hio]; exact h10) h11
    · cases h
  | dne i q =>
    change (match (generalizing := false) e with | .Compare (.Subscript (.Name y _) ek _) [.NotEq] [.List [] _] _ => nmOk N sc y i && mdK kd i 1 && isCon ek q | _ => false) = true at h
    split at h
    · simp only [Bool.and_eq_true] at h
      obtain ⟨⟨h1, h2⟩, h3⟩ := h
      obtain ⟨a1, a2, a3, a4⟩ := nmOk_of h1
      obtain ⟨b1, b2⟩ := isCon_rule (X := X) h3
      exact t_dne (by rw [O.hN]; exact a1) (O.vis _ a2) a3 a4 (cm_rule O.units (c := .ne) (po := .NotEq) rfl) h2 O.hK b1 b2
    · cases h
  | not a =>
    change (match (generalizing := false) e with | .UnaryOp .Not ea _ => ckT G N k sc kd ea a | _ => false) = true at h
    split at h
    · exact t_not (S.t O h)
    · cases h
  | and a b =>
    change (match (generalizing := false) e with | .BoolOp .And (e1 :: f :: r) _ => ckT G N k sc kd e1 a && ckWa G N k sc kd f r b | _ => false) = true at h
    split at h
    · simp only [Bool.and_eq_true] at h
      exact PW.pt (t_and (S.t O h.1) (S.wa O h.2))
    · cases h
  | or a b =>
    change (match (generalizing := false) e with | .BoolOp .Or (e1 :: f :: r) _ => ckT G N k sc kd e1 a && ckWo G N k sc kd f r b | _ => false) = true at h
    split at h
    · simp only [Bool.and_eq_true] at h
      exact PW.pt (t_or (S.t O h.1) (S.wo O h.2))
    · cases h
  | _ => exact val h
theorem snd_wa (S : Snd G N tbl k) (O : XOk G tbl A n N sc X) {f : Expr} {r : List Expr} {x : Ir} {pos : Pos} (h : ckWa G N (k + 1) sc kd f r x = true) : PW X (.BoolOp .And (f :: r) pos) (tT A kd x) := by
  cases r with
  | nil => exact pw_and1 (S.t O h)
  | cons g r =>
    change (match (generalizing := false) x with | .and a b => ckT G N k sc kd f a && ckWa G N k sc kd g r b | _ => false) = true at h
    split at h
    · simp only [Bool.and_eq_true] at h
      exact t_and (S.t O h.1) (S.wa O h.2)
    · cases h
theorem snd_wo (S : Snd G N tbl k) (O : XOk G tbl A n N sc X) {f : Expr} {r : List Expr} {x : Ir} {pos : Pos} (h : ckWo G N (k + 1) sc kd f r x = true) : PW X (.BoolOp .Or (f :: r) pos) (tT A kd x) := by
  cases r with
  | nil => exact pw_or1 (S.t O h)
  | cons g r =>
    change (match (generalizing := false) x with | .or a b => ckT G N k sc kd f a && ckWo G N k sc kd g r b | _ => false) = true at h
    split at h
    · simp only [Bool.and_eq_true] at h
      exact t_or (S.t O h.1) (S.wo O h.2)
    · cases h
theorem snd_ds (S : Snd G N tbl k) (O : XOk G tbl A n N sc X) {d : Nat} {es : List Expr} {as : List Ir} (h : ckDs G N (k + 1) sc kd d es as = true) : PA X es (tDs A kd (List.replicate as.length d) as) ∧ es.all noStar = true := by
  cases es with
  | nil =>
    cases as with
    | nil => exact ⟨d_nil, rfl⟩
    | cons _ _ => cases h
  | cons e es =>
    cases as with
    | nil => cases h
    | cons x xs =>
      have h : (noStar e && ckF G N k sc kd d e x && ckDs G N k sc kd d es xs) = true := h
      simp only [Bool.and_eq_true] at h
      obtain ⟨a, b⟩ := S.ds O h.2
      exact ⟨d_cons (S.f O h.1.2) a (starEach_of h.1.1), by simp [h.1.1, b]⟩
theorem snd_as (S : Snd G N tbl k) (O : XOk G tbl A n N sc X) {es : List Expr} {as : List Ir} (h : ckAs G N (k + 1) sc kd es as = true) : PA X es (tRs A kd as) ∧ es.all noStar = true := by
  cases es with
  | nil =>
    cases as with
    | nil => exact ⟨a_nil, rfl⟩
    | cons _ _ => cases h
  | cons e es =>
    cases as with
    | nil => cases h
    | cons x xs =>
      have h : (noStar e && ckR G N k sc kd e x && stK io0 kd x xs && ckAs G N k sc kd es xs) = true := h
      simp only [Bool.and_eq_true] at h
      obtain ⟨⟨⟨h1, h2⟩, h3⟩, h4⟩ := h
      obtain ⟨a, b⟩ := S.as O h4
      exact ⟨a_cons (S.r O h2) a (by rw [O.hio]; exact h3) (starEach_of h1), by simp [h1, b]⟩
theorem snd_ks (S : Snd G N tbl k) (O : XOk G tbl A n N sc X) {pk : List Kd} {es : List Expr} {as : List Ir} (h : ckKs G N (k + 1) sc kd pk es as = true) : PA X es (tKs A kd pk as) ∧ es.all noStar = true := by
  unfold ckKs at h
  split at h
  · exact ⟨k_nil, rfl⟩
  · simp only [Bool.and_eq_true] at h
    obtain ⟨⟨h1, h2⟩, h3⟩ := h
    obtain ⟨a, b⟩ := S.ks O h3
    exact ⟨k_val (S.f O h2) a (starEach_of h1), by simp [h1, b]⟩
  · simp only [Bool.and_eq_true] at h
    obtain ⟨⟨⟨⟨h1, h2⟩, h3⟩, h4⟩, h5⟩ := h
    obtain ⟨a, b⟩ := S.ks O h5
    exact ⟨k_bor (S.r O h2) h3 (by rw [O.hio]; exact h4) a (starEach_of h1), by simp [h1, b]⟩
  · simp only [Bool.and_eq_true] at h
    obtain ⟨⟨⟨h1, h2⟩, h3⟩, h4⟩ := h
    obtain ⟨a, b⟩ := S.ks O h4
    obtain ⟨a1, a2, a3, a4⟩ := nmOk_of h1
    have hk := scrB_of h2
    exact ⟨k_scr (by rw [O.hN]; exact a1) (O.vis _ a2) a3 a4 hk (by rw [O.hio]; exact h3) a (starEach_of rfl), by simpa [noStar] using b⟩
  · cases h
theorem snd_kw (S : Snd G N tbl k) (O : XOk G tbl A n N sc X) {pk : List Kd} {es : List Keyword} {as : List Ir} (h : ckKw G N (k + 1) sc kd pk es as = true) : PK X es (tKs A kd pk as) := by
  unfold ckKw at h
  split at h
  · exact kw_nil
  · simp only [Bool.and_eq_true] at h
    exact kw_val (S.f O h.1) (S.kw O h.2)
  · simp only [Bool.and_eq_true] at h
    obtain ⟨⟨⟨h2, h3⟩, h4⟩, h5⟩ := h
    exact kw_bor (S.r O h2) h3 (by rw [O.hio]; exact h4) (S.kw O h5)
  · cases h
theorem snd_o (S : Snd G N tbl k) (O : XOk G tbl A n N sc X) {e : Option Expr} {x : Option Ir} (h : ckO G N (k + 1) sc kd e x = true) : PO X e (tO A kd x) := by
  cases e with
  | none =>
    cases x with
    | none => exact o_none
    | some _ => cases h
  | some e =>
    cases x with
    | none => cases h
    | some x => exact o_some (S.r O h)
theorem snd_cs (S : Snd G N tbl k) (O : XOk G tbl A n N sc X) {ifs : List Expr} {cs : List Ir} (h : ckCs G N (k + 1) sc kd ifs cs = true) : PTs X ifs (tCs A kd cs) := by
  unfold ckCs at h
  split at h
  · exact c_nil
  · exact c_one (S.t O h)
  · cases h
theorem star1 {e : Expr} {env : PySem.Env} (h : noStar e = true) : starEach [e] env = [(false, eval e env)] := starEach_of h
theorem star2 {e f : Expr} {env : PySem.Env} (h : noStar e = true) (h' : noStar f = true) : starEach [e, f] env = [(false, eval e env), (false, eval f env)] := by rw [starEach_of h, star1 h']
theorem isTup {e : Expr} (h : (!notTup e) = true) : ∃ es k p, e = .Tuple es k p := by
  cases e <;> first | exact ⟨_, _, _, rfl⟩ | cases h
theorem snd_i (S : Snd G N tbl k) (O : XOk G tbl A n N sc X) {tg e : Expr} {it : Wk} (h : ckI G N (k + 1) sc kd tg e it = true) : PI X tg e (tI A kd it) := by
  cases it with
  | ex x =>
    have h : (ckR G N k sc kd e x && wkK kd x) = true := h
    simp only [Bool.and_eq_true] at h
    exact i_ex O.hK (S.r O h.1) h.2
  | range a =>
    change (match (generalizing := false) e with | .Call (.Name r _) [e1] [] _ => blOk G sc r "range" && noStar e1 && ckR G N k sc kd e1 a | _ => false) = true at h
    split at h
    · simp only [Bool.and_eq_true] at h
      obtain ⟨⟨h1, h2⟩, h3⟩ := h
      obtain ⟨e1, b1, b2, b3, b4⟩ := bl_rule O h1
      subst e1
      exact i_range b1 b2 (S.r O h3) (star1 h2)
    · cases h
  | range2 a b =>
    change (match (generalizing := false) e with | .Call (.Name r _) [e1, e2] [] _ => blOk G sc r "range" && noStar e1 && noStar e2 && ckR G N k sc kd e1 a && ckR G N k sc kd e2 b && stK io0 kd a [b] | _ => false) = true at h
    split at h
    · simp only [Bool.and_eq_true] at h
      obtain ⟨⟨⟨⟨⟨h1, h2⟩, h3⟩, h4⟩, h5⟩, h6⟩ := h
      obtain ⟨e1, b1, b2, b3, b4⟩ := bl_rule O h1
      subst e1
      exact i_range2 b1 b2 (S.r O h4) (S.r O h5) (by rw [O.hio]; exact h6) (star2 h2 h3) (star1 h3)
    · cases h
  | enum x =>
    change (match (generalizing := false) e with | .Call (.Name r _) [e1] [] _ => blOk G sc r "enumerate" && noStar e1 && ckR G N k sc kd e1 x && wkK kd x && !notTup tg | _ => false) = true at h
    split at h
    · simp only [Bool.and_eq_true] at h
      obtain ⟨⟨⟨⟨h1, h2⟩, h3⟩, h4⟩, h5⟩ := h
      obtain ⟨e1, b1, b2, b3, b4⟩ := bl_rule O h1
      subst e1
      obtain ⟨es, kk, p, rfl⟩ := isTup h5
      exact i_enum O.hK b1 b2 (S.r O h3) h4 (star1 h2)
    · cases h
  | zip x y =>
    change (match (generalizing := false) e with | .Call (.Name r _) [e1, e2] [] _ => blOk G sc r "zip" && noStar e1 && noStar e2 && ckR G N k sc kd e1 x && ckR G N k sc kd e2 y && wkK kd x && wkK kd y && stK io0 kd x [y] && !notTup tg | _ => false) = true at h
    split at h
    · simp only [Bool.and_eq_true] at h
      obtain ⟨⟨⟨⟨⟨⟨⟨⟨h1, h2⟩, h3⟩, h4⟩, h5⟩, h6⟩, h7⟩, h8⟩, h9⟩ := h
      obtain ⟨e1, b1, b2, b3, b4⟩ := bl_rule O h1
      subst e1
      obtain ⟨es, kk, p, rfl⟩ := isTup h9
      exact i_zip O.hK b1 b2 (S.r O h4) (S.r O h5) h6 h7 (by rw [O.hio]; exact h8) (star2 h2 h3) (star1 h3)
    · cases h
theorem snd_z (S : Snd G N tbl k) (O : XOk G tbl A n N sc X) {e : Expr} {x : Ir} (h : ckZ G N (k + 1) sc kd e x = true) : PE X e (tZ A kd x) := by
  cases x with
  | nm i =>
    change (match (generalizing := false) e with | .Name y _ => nmOk N sc y i && own0 kd i | _ => false) = true at h
    split at h
    · simp only [Bool.and_eq_true] at h
      obtain ⟨a1, a2, a3, a4⟩ := nmOk_of h.1
      exact z_nm (by rw [O.hN]; exact a1) (O.vis _ a2) a3 a4 (own0_of h.2)
    · cases h
  | con t =>
    obtain ⟨v, a, b, c⟩ := con_rule (A := A) (X := X) (show conOk e t = true from h)
    exact z_con a b
  | bin o a b =>
    change (match (generalizing := false) e with | .BinOp ea po eb _ => opOk o po && (match (generalizing := false) o with | .fdiv => true | .sub => true | .mod => true | _ => false) && ckZ G N k sc kd ea a && ckZ G N k sc kd eb b | _ => false) = true at h
    split at h
    · simp only [Bool.and_eq_true] at h
      obtain ⟨⟨⟨h1, h2⟩, h3⟩, h4⟩ := h
      refine z_bin (op_rule h1) O.hK ?_ (S.z O h3) (S.z O h4)
      cases o with
      | fdiv => exact fun x y z => fdiv_int
      | sub => exact fun x y z => sub_int'
      | mod => exact fun x y z => mod_int''
      | _ => cases h2
    · cases h
  | _ => cases h
end
end Pv
end

section
set_option Elab.async false
set_option linter.all false
set_option maxRecDepth 100000
set_option maxHeartbeats 2000000
/-! PvZ3: the check is sound: expressions. -/
namespace Pv
open PySem PySem.Spec PyProof.Rows L2

section
variable {A : Act} {kd : List Kd} {X : Cx}
/-! ### x.remove(a), ints -/
theorem posI_some {k : Int} : ∀ {ns : List Int} {j : Nat}, posI k ns = some j → ns[j]? = some k ∧ ∀ m : Nat, m < j → ns[m]? ≠ some k
  | [], j, h => by cases h
  | i :: l, j, h => by
    unfold posI at h
    split at h
    · rename_i e
      cases h
      exact ⟨by rw [e]; rfl, fun m hm => by omega⟩
    · rename_i e
      obtain ⟨j', h1, rfl⟩ := Option.map_eq_some_iff.mp h
      obtain ⟨a, b⟩ := posI_some h1
      refine ⟨by simpa using a, fun m hm => ?_⟩
      cases m with
      | zero => simpa using e
      | succ m => simpa using b m (by omega)
theorem evE_rem {C : Cal} {i : Nat} {a : Ir} {env env' : Env} {t : T} (h : evE C (.rem i a) env = some (t, env')) :
    ∃ l0 k env1 l ns j, getV env i = some (.lst l0) ∧ evE C a env = some (.int k, env1) ∧ getV env1 i = some (.lst l) ∧ intsOf l = some ns ∧ posI k ns = some j ∧ t = .non ∧ env' = env1.set i (some (.lst ((ns.eraseIdx j).map T.int))) := by
  unfold evE at h
  obtain ⟨t0, h1, h⟩ := bind_some h
  obtain ⟨l0, h2, h⟩ := bind_some h
  obtain ⟨⟨x, env1⟩, h3, h⟩ := bind_some h
  obtain ⟨t1, h4, h⟩ := bind_some h
  obtain ⟨l, h5, h⟩ := bind_some h
  obtain ⟨k, h6, h⟩ := bind_some h
  obtain ⟨ns, h7, h⟩ := bind_some h
  obtain ⟨j, h8, h⟩ := bind_some h
  have e1 := listOf_some h2
  have e2 := listOf_some h5
  have e3 := intOf_some h6
  have h9 : some (T.non, env1.set i (some (.lst ((ns.eraseIdx j).map T.int)))) = some (t, env') := h
  subst e1 e2 e3
  cases h9
  exact ⟨l0, k, env1, l, ns, j, h1, h3, h4, h7, h8, rfl, rfl⟩
theorem s_rem {i : Nat} {a : Ir} {e : Expr} {x : Str} {p apos cpos : Pos} (hN : X.N[i]? = some x) (hv : Vis X.env.scope x) (hd : (x == ("__debug__" : Str)) = false) (hcd : (x == ("__classdict__" : Str)) = false) (hm : mdK kd i 0 = true) (ha : PE X e (tR A kd a))
    (hs : starEach [e] X.env = (false, eval e X.env) :: starEach [] X.env) (hline : (apos.endLine == cpos.line) = true) :
    PE X (.Call (.Attribute (.Name x p) "remove" apos) [e] [] cpos) (tF A kd 1 (.rem i a)) :=
  PE.imp (pe_bm PySem.F.plainAttrs_list PySem.F.slot_list_remove PySem.F.type_list_remove mt_remove (pe_var (i := i) hN hv hd hcd) (pa_cons ha pa_nil hs) (hbase := by rfl) (hfew := by rw [hs]; rfl) (hline := hline) (hs := hs) (hplain := by rfl)) fun σ H Q ⟨F, env, tm, t, env', R, n, ev, q⟩ => by
    obtain ⟨l0, k, env1, l, ns, j, h1, h2, h3, h4, h5, rfl, rfl⟩ := evE_rem ev
    obtain ⟨a0, xs0, s0, z0⟩ := R.lists h1 hm
    have n1 : NoT A a tm := fun e he j z => (Bool.or_eq_false_iff.mp (n e he j z)).2
    refine ⟨.ref a0, s0, .inl ⟨rfl, xs0, SqL.of z0⟩, F, env, tm, .int k, env1, R, n1, h2, fun kk v F1 H1 kr R1 s1 => ?_⟩
    have ev' := R1.intv kr
    subst ev'
    obtain ⟨a1, xs, s1', z1, r, g⟩ := R1.pops.mod0 h3 hm (n.self (by show (i == i || _) = true; simp))
    rw [s0] at s1'
    cases s1'
    obtain ⟨rfl, _⟩ := ints_rep h4 r
    obtain ⟨p1, p2⟩ := posI_some h5
    obtain ⟨F3, R4, s3⟩ := (g ((ns.eraseIdx j).map T.int) _ (reps_ints (ns.eraseIdx j))).fin1 (z := .non) (v := .non) (outS .non)
    exact ⟨a0, ns, k, j, rfl, rfl, z1, p1, p2, q _ F3 _ R4 (s1.trans s3)⟩
end

section
variable {A : Act} {kd : List Kd} {X : Cx}
/-- a slice of the script -/
theorem s_slScr {a : Ir} {lo hi : Option Ir} {e : Expr} {el eh : Option Expr} {p2 pos : Pos} (hK : A.K = X.K) (ha : PE X e (tR A kd a)) (hl : PO X el (tO A kd lo)) (hh : PO X eh (tO A kd hi)) (hs : scrE kd a = true) (st : stO A.io kd a lo hi = true) :
    PE X (.Subscript e (.Slice el eh none p2) pos) (tF A kd 1 (.sl a lo hi)) := by
  cases a with
  | nm i =>
    have hk := scrB_of (show scrB kd i = true from hs)
    have st : ((match kd[i]? with | some (.own 0) => true | _ => false) || (!tchO A.io i lo && !tchO A.io i hi)) = true := st
    rw [hk] at st
    have st : (!tchO A.io i lo && !tchO A.io i hi) = true := st
    simp only [Bool.and_eq_true, Bool.not_eq_true'] at st
    refine PE.imp (pe_slice sl_list ha hl hh) fun σ H Q ⟨F, env, tm, t, env', R, n, ev, q⟩ => ?_
    obtain ⟨x, env1, l, env2, u, h1, h2, h3, h4⟩ := evE_sl ev
    have n0 : ∀ e ∈ tm, ∀ j, e.k = .al j → (tchE A.io j (.nm i) || tchO A.io j lo || tchO A.io j hi) = false := n
    have n2 : ∀ e ∈ tm, ∀ j, e.k = .al j → tchO A.io j lo = false := fun e he j z => (Bool.or_eq_false_iff.mp (Bool.or_eq_false_iff.mp (n0 e he j z)).1).2
    have n3 : ∀ e ∈ tm, ∀ j, e.k = .al j → tchO A.io j hi = false := fun e he j z => (Bool.or_eq_false_iff.mp (n0 e he j z)).2
    -- the script as it stands
    obtain ⟨hx, e1⟩ := evE_nm h1
    subst e1
    obtain ⟨k0, v0, g1, g2, g3, _⟩ := R.slot hx
    rw [hk] at g1
    cases g1
    obtain ⟨al, e4⟩ := R.lay.ent g3
    obtain ⟨_, a0, ns, rfl, rfl, hS⟩ := (show al = [] ∧ ∃ (a : Addr) (ns : List Int), x = .lst (ns.map T.int) ∧ v0 = .ref a ∧ SqL A.K A.G a (ns.map V.int) from e4)
    refine ⟨F, env1, tm, _, env1, R, fun e he j z => rfl, h1, fun k v F1 H1 kr R1 s1 => ?_⟩
    have kal : ∀ j, k = .al j → j = i := fun j z => by
      rcases kr with rfl | ⟨i', e1, rfl, _⟩
      · cases z
      · cases e1
        cases z
        rfl
    have rd : ∃ a xs, v = .ref a ∧ Reps A.K F1 (ns.map T.int) xs ∧ (SqL A.K F1 a xs ∨ SqL A.K A.G a xs) := by
      rcases kr with rfl | ⟨i', e1, rfl, _⟩
      · have r := R1.rep (t := .lst (ns.map T.int)) (v := v) last_get
        cases r with | lst r1 r2 => exact ⟨_, _, rfl, r2, .inl (SqL.of r1)⟩
      · cases e1
        obtain ⟨k', w1, w2, w3⟩ := R1.alias (i := i) (t := .lst (ns.map T.int)) (v := v) last_get
        rw [hk] at w3
        cases w3
        have w4 : (slotsOf kd env1 σ ++ tm)[i]? = some ⟨.scr, .lst (ns.map T.int), v⟩ := by
          rw [List.getElem?_append_left (lt_of_get w2)]; exact w2
        obtain ⟨al', w5⟩ := R1.pops.lay.ent w4
        obtain ⟨_, a1, ns1, w6, rfl, w7⟩ := (show al' = [] ∧ ∃ (a : Addr) (ms : List Int), T.lst (ns.map T.int) = .lst (ms.map T.int) ∧ v = .ref a ∧ SqL A.K A.G a (ms.map V.int) from w5)
        injection w6 with w6
        rw [w6]
        exact ⟨a1, _, rfl, reps_ints ns1, .inr w7⟩
    obtain ⟨a2, xs, rfl, rr, sq⟩ := rd
    have last : ∀ {o : Option Ir}, tchO A.io i o = false → (∀ e ∈ tm, ∀ j, e.k = .al j → tchO A.io j o = false) → ∀ e ∈ tm ++ [(⟨k, .lst (ns.map T.int), .ref a2⟩ : Ent)], ∀ j, e.k = .al j → tchO A.io j o = false := fun {o} h h' e he j z => by
      rcases List.mem_append.mp he with he | he
      · exact h' e he j z
      · have : e = ⟨k, .lst (ns.map T.int), .ref a2⟩ := by simpa using he
        subst this
        rw [kal j z]; exact h
    refine ⟨F1, env1, _, l, env2, R1, last st.1 n2, h2, fun F2 H2 R2 s2 => ⟨F2, env2, _, u, env', R2, last st.2 n3, h3, fun F3 H3 R3 s3 => ?_⟩⟩
    have h4 : slT (.lst (ns.map T.int)) l u = some t := h4
    cases h4
    refine ⟨a2, xs, rfl, ?_, fun p hp => ?_⟩
    · rw [← hK]
      rcases sq with sq | sq
      · exact ((s2.trans s3).trans R3.lay.fh).seq sq
      · exact R3.lay.gh.seq sq
    · obtain ⟨F5, R5, s5⟩ := R3.pops.fin1 (.inr (.inl ⟨p, _, _, rfl, rfl, hp, rfl, (rr.mono (s2.trans s3)).cutR l u⟩))
      exact q _ F5 _ R5 (((s1.trans s2).trans s3).trans s5)
  | _ => cases hs
end
section
variable {G : Glb} {N : List Str} {tbl : List Fn} {k : Nat} {A : Act} {n : Nat} {sc : Scope} {kd : List Kd} {X : Cx}
theorem fn_rule (O : XOk G tbl A n N sc X) {x : Str} {f : Nat} (h : fnOk G sc x f = true) : G.fns[f]? = some x ∧ Gl X x ∧ (x == ("__debug__" : Str)) = false := by
  unfold fnOk at h
  simp only [Bool.and_eq_true] at h
  obtain ⟨g1, g2, g3⟩ := glOk_of h.2
  exact ⟨of_decide_eq_true h.1, O.gl x g1, g2⟩
theorem kws_names {kws : List Keyword} {env : PySem.Env} {pos : Pos} (h : kws.all (fun w => (kwName w).isSome) = true) : (backToKw pos (keywordEach kws env)).all (·.1.isSome) = true ∧ (backToKw pos (keywordEach kws env)).filterMap (·.1) = kws.filterMap kwName ∧ (backToKw pos (keywordEach kws env)).any (·.1.isNone) = false := by
  induction kws with
  | nil => exact ⟨rfl, rfl, rfl⟩
  | cons w kws ih =>
    obtain ⟨nm, e, p⟩ := w
    have h' : nm.isSome = true ∧ kws.all (fun w => (kwName w).isSome) = true := by simpa [kwName] using h
    obtain ⟨a, b, c⟩ := ih h'.2
    cases nm with
    | none => cases h'.1
    | some x =>
      refine ⟨?_, ?_, ?_⟩
      · show (true && (backToKw pos (keywordEach kws env)).all (·.1.isSome)) = true
        rw [a]; rfl
      · show x :: (backToKw pos (keywordEach kws env)).filterMap (·.1) = x :: kws.filterMap kwName
        rw [b]
      · show (false || (backToKw pos (keywordEach kws env)).any (·.1.isNone)) = false
        rw [c]; rfl
theorem all_cons {e : Expr} {es : List Expr} (h : (e :: es).all noStar = true) : noStar e = true ∧ es.all noStar = true := by simpa using h
theorem kw_len : ∀ {kws : List Keyword}, kws.all (fun w => (kwName w).isSome) = true → (kws.filterMap kwName).length = kws.length
  | [], _ => rfl
  | w :: kws, h => by
    have h' : (kwName w).isSome = true ∧ kws.all (fun w => (kwName w).isSome) = true := by simpa using h
    cases e : kwName w with
    | none => rw [e] at h'; cases h'.1
    | some x =>
      rw [List.filterMap_cons, e]
      show (kws.filterMap kwName).length + 1 = kws.length + 1
      rw [kw_len h'.2]
theorem bi_rule (O : XOk G tbl A n N sc X) {b : Bi} {x : Str} {p pos : Pos} {e : Expr} {es : List Expr} {as : List Ir} (h : blOk G sc x (biName b) = true) (ha : PA X (e :: es) (tRs A kd as)) (hs : (e :: es).all noStar = true) (ra : as.all (rdK kd) = true) : PE X (.Call (.Name x p) (e :: es) [] pos) (tF A kd 1 (.bi b as)) := by
  obtain ⟨e1, b1, b2, b3, b4⟩ := bl_rule O h
  have hs' : noStar e = true ∧ es.all noStar = true := by simpa using hs
  have st := starEach_of (es := es) (env := X.env) hs'.1
  have nst := noneStar (env := X.env) (pos := pos) hs'.2
  subst e1
  cases b with
  | len => exact s_bi b_len O.hK b1 b2 PySem.boot_len ha ra b4 b3 st nst
  | list => exact s_biTy b_list O.hK b1 b2 (by first | exact PySem.boot_list | exact PyProof.Rows.boot_list | exact boot_list) ha ra b4 b3 st nst
  | tuple => exact s_biTy b_tuple O.hK b1 b2 (by first | exact PySem.boot_tuple | exact PyProof.Rows.boot_tuple | exact boot_tuple) ha ra b4 b3 st nst
  | sorted => exact s_bi b_sorted O.hK b1 b2 (by first | exact PySem.boot_sorted | exact PyProof.Rows.boot_sorted | exact boot_sorted) ha ra b4 b3 st nst
  | sum => exact s_bi (b_sum O.calm) O.hK b1 b2 (by first | exact PySem.boot_sum | exact PyProof.Rows.boot_sum | exact boot_sum) ha ra b4 b3 st nst
  | all => exact s_bi (b_all O.calm) O.hK b1 b2 (by first | exact PySem.boot_all | exact PyProof.Rows.boot_all | exact boot_all) ha ra b4 b3 st nst
  | any => exact s_bi (b_any O.calm) O.hK b1 b2 (by first | exact PySem.boot_any | exact PyProof.Rows.boot_any | exact boot_any) ha ra b4 b3 st nst
  | repr => exact s_bi (b_repr O.units O.gd) O.hK b1 b2 (by first | exact PySem.boot_repr | exact PyProof.Rows.boot_repr | exact boot_repr) ha ra b4 b3 st nst
  | int => exact s_biTy b_int O.hK b1 b2 (by first | exact PySem.boot_int | exact PyProof.Rows.boot_int | exact boot_int) ha ra b4 b3 st nst
  | min2 => exact s_bi (b_min2 O.calm) O.hK b1 b2 (by first | exact PySem.boot_min | exact PyProof.Rows.boot_min | exact boot_min) ha ra b4 b3 st nst
  | max2 => exact s_bi (b_max2 O.calm) O.hK b1 b2 (by first | exact PySem.boot_max | exact PyProof.Rows.boot_max | exact boot_max) ha ra b4 b3 st nst
  | abs => exact s_bi b_abs O.hK b1 b2 (by first | exact PySem.boot_abs | exact PyProof.Rows.boot_abs | exact boot_abs) ha ra b4 b3 st nst

theorem snd_f (S : Snd G N tbl k) (O : XOk G tbl A n N sc X) {d : Nat} {e : Expr} {x : Ir} (h : ckF G N (k + 1) sc kd d e x = true) : PE X e (tF A kd d x) := by
  have hN := O.hN
  cases x with
  | nm i =>
    change (d == 0 && (match (generalizing := false) e with | .Name y _ => nmOk N sc y i && own0 kd i | _ => false)) = true at h
    obtain ⟨hd, hh⟩ := Bool.and_eq_true_iff.mp h
    clear h
    have hd' : d = 0 := by simpa using hd
    clear hd
    subst hd'
    have h := hh
    clear hh
    split at h
    · obtain ⟨h1, h2⟩ := Bool.and_eq_true_iff.mp h
      exact tR_tF (nm_rule O h1) fun j z => by cases z; exact own0_of h2
    · cases h
  | con t =>
    obtain ⟨hd, h⟩ := Bool.and_eq_true_iff.mp (show (decide (d ≤ 1) && conOk e t) = true from h)
    obtain ⟨v, a, b, c⟩ := con_rule (A := A) (X := X) h
    exact tF_le1 (s_con a b c) hd (fun _ z => by cases z)
  | bin o a b =>
    change (decide (d ≤ 1) && (match (generalizing := false) e with | .BinOp ea po eb _ => opOk o po && ckR G N k sc kd ea a && ckR G N k sc kd eb b && rdK kd a && rdK kd b && stK io0 kd a [b] | _ => false)) = true at h
    obtain ⟨hd, h⟩ := Bool.and_eq_true_iff.mp h
    split at h
    · simp only [Bool.and_eq_true] at h
      obtain ⟨⟨⟨⟨⟨h1, h2⟩, h3⟩, h4⟩, h5⟩, h6⟩ := h
      exact tF_le1 (s_bin (op_rule h1) O.hK (S.r O h2) (S.r O h3) h4 h5 (by rw [O.hio]; exact h6)) hd (fun _ z => by cases z)
    · cases h
  | neg a =>
    change (decide (d ≤ 1) && (match (generalizing := false) e with | .UnaryOp .USub ea _ => ckR G N k sc kd ea a && rdK kd a | _ => false)) = true at h
    obtain ⟨hd, h⟩ := Bool.and_eq_true_iff.mp h
    split at h
    · simp only [Bool.and_eq_true] at h
      exact tF_le1 (s_neg O.hK (S.r O h.1) h.2) hd (fun _ z => by cases z)
    · cases h
  | cmp c a b =>
    change (decide (d ≤ 1) && (match (generalizing := false) e with | .Compare ea [op] [eb] _ => cmOk c op && ckR G N k sc kd ea a && ckR G N k sc kd eb b && rdK kd a && rdK kd b && stK io0 kd a [b] && !behindInMarks op eb | _ => false)) = true at h
    obtain ⟨hd, h⟩ := Bool.and_eq_true_iff.mp h
    split at h
    · simp only [Bool.and_eq_true, Bool.not_eq_true'] at h
      obtain ⟨⟨⟨⟨⟨⟨h1, h2⟩, h3⟩, h4⟩, h5⟩, h6⟩, h7⟩ := h
      exact tF_le1 (s_cmp (cm_rule O.units h1) O.hK (S.r O h2) (S.r O h3) h4 h5 (by rw [O.hio]; exact h6) h7) hd (fun _ z => by cases z)
    · cases h
  | cmp2 c c2 a b f =>
    change (decide (d ≤ 1) && (match (generalizing := false) e with | .Compare ea [op, op2] [eb, ef] _ => cmOk c op && cmOk c2 op2 && ckR G N k sc kd ea a && ckR G N k sc kd eb b && ckR G N k sc kd ef f && rdK kd a && rdK kd b && rdK kd f && stK io0 kd a [b, f] && stK io0 kd b [f] && !lastMarks [op, op2] [eb, ef] | _ => false)) = true at h
    obtain ⟨hd, h⟩ := Bool.and_eq_true_iff.mp h
    split at h
    · simp only [Bool.and_eq_true, Bool.not_eq_true'] at h
      obtain ⟨⟨⟨⟨⟨⟨⟨⟨⟨⟨h1, h2⟩, h3⟩, h4⟩, h5⟩, h6⟩, h7⟩, h8⟩, h9⟩, h10⟩, h11⟩ := h
      exact tF_le1 (s_cmp2 (cm_rule O.units h1) (cm_rule O.units h2) O.hK (S.r O h3) (S.r O h4) (S.r O h5) h6 h7 h8 (by rw [O.hio]; exact h9) (by rw [O.hio]; exact h10) h11) hd (fun _ z => by cases z)
    · cases h
  | not a =>
    change (decide (d ≤ 1) && (match (generalizing := false) e with | .UnaryOp .Not ea _ => ckR G N k sc kd ea a && rdK kd a | _ => false)) = true at h
    obtain ⟨hd, h⟩ := Bool.and_eq_true_iff.mp h
    split at h
    · simp only [Bool.and_eq_true] at h
      exact tF_le1 (s_not (S.r O h.1) h.2 O.hK) hd (fun _ z => by cases z)
    · cases h
  | ite c a b =>
    change (match (generalizing := false) e with | .IfExp ec ea eb _ => ckT G N k sc kd ec c && ckF G N k sc kd d ea a && ckF G N k sc kd d eb b | _ => false) = true at h
    split at h
    · simp only [Bool.and_eq_true] at h
      exact s_ite (S.t O h.1.1) (S.f O h.1.2) (S.f O h.2)
    · cases h
  | tup as =>
    change (decide (d ≤ 1) && (match (generalizing := false) e with | .Tuple es _ _ => ckDs G N k sc kd 0 es as && okLen as.length | _ => false)) = true at h
    obtain ⟨hd, h⟩ := Bool.and_eq_true_iff.mp h
    split at h
    · simp only [Bool.and_eq_true] at h
      exact tF_le1 (s_tupD (S.ds O h.1).1 h.2) hd (fun _ z => by cases z)
    · cases h
  | lst as =>
    change (match (generalizing := false) e with | .List es _ => ckDs G N k sc kd (d - 1) es as && okLen as.length | _ => false) = true at h
    split at h
    · simp only [Bool.and_eq_true] at h
      rename_i es pos
      have a : PE X (.List es pos) (tF A kd (d - 1 + 1) (.lst as)) := s_lstD (S.ds O h.1).1 h.2
      cases d with
      | zero => exact tF_zero a (fun _ z => by cases z)
      | succ d => exact a
    · cases h
  | ix a b =>
    change (d == 0 && (match (generalizing := false) e with | .Subscript ea eb _ => plainIx eb && ckR G N k sc kd ea a && ckR G N k sc kd eb b && rdK kd a && rdK kd b && stK io0 kd a [b] | _ => false)) = true at h
    obtain ⟨hd, hh⟩ := Bool.and_eq_true_iff.mp h
    clear h
    have hd' : d = 0 := by simpa using hd
    clear hd
    subst hd'
    have h := hh
    clear hh
    split at h
    · simp only [Bool.and_eq_true] at h
      obtain ⟨⟨⟨⟨⟨h1, h2⟩, h3⟩, h4⟩, h5⟩, h6⟩ := h
      exact s_ix O.hK (S.r O h2) (S.r O h3) h4 h5 (by rw [O.hio]; exact h6) (plainIx_of h1)
    · cases h
  | sl a lo hi =>
    change (decide (d ≤ 1) && (match (generalizing := false) e with | .Subscript ea (.Slice el eh none _) _ => ckR G N k sc kd ea a && ckO G N k sc kd el lo && ckO G N k sc kd eh hi && (rdK kd a || scrE kd a) && stO io0 kd a lo hi | _ => false)) = true at h
    obtain ⟨hd, h⟩ := Bool.and_eq_true_iff.mp h
    split at h
    · simp only [Bool.and_eq_true] at h
      obtain ⟨⟨⟨⟨h1, h2⟩, h3⟩, h4⟩, h5⟩ := h
      rcases Bool.or_eq_true_iff.mp h4 with h4 | h4
      · exact tF_le1 (s_sl O.hK (S.r O h1) (S.o O h2) (S.o O h3) h4 (by rw [O.hio]; exact h5)) hd (fun _ z => by cases z)
      · exact tF_le1 (s_slScr O.hK (S.r O h1) (S.o O h2) (S.o O h3) h4 (by rw [O.hio]; exact h5)) hd (fun _ z => by cases z)
    · cases h
  | rev a =>
    change (decide (d ≤ 1) && (match (generalizing := false) e with | .Subscript ea (.Slice none none (some (.UnaryOp .USub (.Constant (.int 1) _ _) _)) _) _ => ckR G N k sc kd ea a && rdK kd a | _ => false)) = true at h
    obtain ⟨hd, h⟩ := Bool.and_eq_true_iff.mp h
    split at h
    · simp only [Bool.and_eq_true] at h
      exact tF_le1 (s_rev O.hK (S.r O h.1) h.2) hd (fun _ z => by cases z)
    · cases h
  | bi b as =>
    change (decide (d ≤ 1) && (match (generalizing := false) e with | .Call (.Name g _) (e1 :: es) [] _ => blOk G sc g (biName b) && ckAs G N k sc kd (e1 :: es) as && as.all (rdK kd) | _ => false)) = true at h
    obtain ⟨hd, h⟩ := Bool.and_eq_true_iff.mp h
    split at h
    · simp only [Bool.and_eq_true] at h
      obtain ⟨a1, a2⟩ := S.as O h.1.2
      exact tF_le1 (bi_rule O h.1.1 a1 a2 h.2) hd (fun _ z => by cases z)
    · cases h
  | lrg a =>
    change (decide (d ≤ 1) && (match (generalizing := false) e with | .Call (.Name g _) [.Call (.Name r _) [e1] [] _] [] _ => blOk G sc g "list" && blOk G sc r "range" && noStar e1 && ckR G N k sc kd e1 a | _ => false)) = true at h
    obtain ⟨hd, h⟩ := Bool.and_eq_true_iff.mp h
    split at h
    · simp only [Bool.and_eq_true] at h
      obtain ⟨⟨⟨h1, h2⟩, h3⟩, h4⟩ := h
      obtain ⟨e1, b1, b2, _, _⟩ := bl_rule O h1
      obtain ⟨e2, c1, c2, _, _⟩ := bl_rule O h2
      subst e1 e2
      exact tF_le1 (s_lrg O.calm b1 b2 c1 c2 (S.r O h4) (starEach_of h3)) hd (fun _ z => by cases z)
    · cases h
  | pop i p a =>
    cases p with
    | none =>
      change (d == 0 && (match (generalizing := false) e with
        | .Call (.Attribute (.Name y _) m ap) es [] cp => decide (m = ("pop" : Str)) && nmOk N sc y i && mdK kd i 0 && ap.endLine == cp.line && (match (generalizing := false) es, a with
          | [], none => true
          | [e1], some a => noStar e1 && ckR G N k sc kd e1 a
          | _, _ => false)
        | _ => false)) = true at h
      obtain ⟨hd, hh⟩ := Bool.and_eq_true_iff.mp h
      clear h
      have hd' : d = 0 := by simpa using hd
      clear hd
      subst hd'
      have h := hh
      clear hh
      split at h
      · simp only [Bool.and_eq_true] at h
        obtain ⟨⟨⟨⟨h1, h2⟩, h3⟩, h4⟩, h5⟩ := h
        have e1 := of_decide_eq_true h1
        subst e1
        obtain ⟨a1, a2, a3, a4⟩ := nmOk_of h2
        split at h5
        · exact s_pop (by rw [hN]; exact a1) (O.vis _ a2) a3 a4 h3 h4
        · simp only [Bool.and_eq_true] at h5
          exact s_popAt (by rw [hN]; exact a1) (O.vis _ a2) a3 a4 h3 (S.r O h5.2) (starEach_of h5.1) h4
        · cases h5
      · cases h
    | some p =>
      cases a with
      | none =>
        change (d == 0 && (match (generalizing := false) e with
          | .Call (.Attribute (.Subscript (.Name y _) ek _) m ap) [] [] cp => decide (m = ("pop" : Str)) && nmOk N sc y i && mdK kd i 1 && ap.endLine == cp.line && plainIx ek && ckR G N k sc kd ek p
          | _ => false)) = true at h
        obtain ⟨hd, hh⟩ := Bool.and_eq_true_iff.mp h
        clear h
        have hd' : d = 0 := by simpa using hd
        clear hd
        subst hd'
        have h := hh
        clear hh
        split at h
        · simp only [Bool.and_eq_true] at h
          obtain ⟨⟨⟨⟨⟨h1, h2⟩, h3⟩, h4⟩, h5⟩, h6⟩ := h
          have e1 := of_decide_eq_true h1
          subst e1
          obtain ⟨a1, a2, a3, a4⟩ := nmOk_of h2
          exact s_popIn (by rw [hN]; exact a1) (O.vis _ a2) a3 a4 h3 O.hK (S.r O h6) (plainIx_of h5) h4
        · cases h
      | some _ => cases h
  | app i p a =>
    cases p with
    | none =>
      change (decide (d ≤ 1) && (match (generalizing := false) e with
        | .Call (.Attribute (.Name y _) m ap) [e1] [] cp => decide (m = ("append" : Str)) && nmOk N sc y i && ap.endLine == cp.line && noStar e1 && (match kd[i]? with | some (.own (q + 1)) => ckF G N k sc kd q e1 a | some (.io (q + 1)) => ckF G N k sc kd q e1 a | _ => false)
        | _ => false)) = true at h
      obtain ⟨hd, h⟩ := Bool.and_eq_true_iff.mp h
      split at h
      · simp only [Bool.and_eq_true] at h
        obtain ⟨⟨⟨⟨h1, h2⟩, h4⟩, h5⟩, h6⟩ := h
        have e1 := of_decide_eq_true h1
        subst e1
        obtain ⟨a1, a2, a3, a4⟩ := nmOk_of h2
        split at h6
        · rename_i q hq
          exact tF_le1 (s_app (d := q) (by rw [hN]; exact a1) (O.vis _ a2) a3 a4 (by unfold mdK; rw [hq]; simp) O.hK (S.f O h6) (starEach_of h5) h4) hd (fun _ z => by cases z)
        · rename_i q hq
          exact tF_le1 (s_app (d := q) (by rw [hN]; exact a1) (O.vis _ a2) a3 a4 (by unfold mdK; rw [hq]; simp) O.hK (S.f O h6) (starEach_of h5) h4) hd (fun _ z => by cases z)
        · cases h6
      · cases h
    | some p =>
      change (decide (d ≤ 1) && (match (generalizing := false) e with
        | .Call (.Attribute (.Subscript (.Name y _) ek _) m ap) [e1] [] cp => decide (m = ("append" : Str)) && nmOk N sc y i && mdK kd i 1 && ap.endLine == cp.line && plainIx ek && ckR G N k sc kd ek p && noStar e1 && simE kd a && ckZ G N k sc kd e1 a
        | _ => false)) = true at h
      obtain ⟨hd, h⟩ := Bool.and_eq_true_iff.mp h
      split at h
      · simp only [Bool.and_eq_true] at h
        obtain ⟨⟨⟨⟨⟨⟨⟨⟨h1, h2⟩, h3⟩, h4⟩, h5⟩, h6⟩, h7⟩, h8⟩, h9⟩ := h
        have e1 := of_decide_eq_true h1
        subst e1
        obtain ⟨a1, a2, a3, a4⟩ := nmOk_of h2
        exact tF_le1 (s_appIn (by rw [hN]; exact a1) (O.vis _ a2) a3 a4 h3 O.hK (S.r O h6) h8 (S.z O h9) (plainIx_of h5) (starEach_of h7) h4) hd (fun _ z => by cases z)
      · cases h
  | rem i a =>
    change (decide (d ≤ 1) && (match (generalizing := false) e with
      | .Call (.Attribute (.Name y _) m ap) [e1] [] cp => decide (m = ("remove" : Str)) && nmOk N sc y i && mdK kd i 0 && ap.endLine == cp.line && noStar e1 && ckR G N k sc kd e1 a
      | _ => false)) = true at h
    obtain ⟨hd, h⟩ := Bool.and_eq_true_iff.mp h
    split at h
    · simp only [Bool.and_eq_true] at h
      obtain ⟨⟨⟨⟨⟨h1, h2⟩, h3⟩, h4⟩, h5⟩, h6⟩ := h
      have e1 := of_decide_eq_true h1
      subst e1
      obtain ⟨a1, a2, a3, a4⟩ := nmOk_of h2
      exact tF_le1 (s_rem (by rw [hN]; exact a1) (O.vis _ a2) a3 a4 h3 (S.r O h6) (starEach_of h5) h4) hd (fun _ z => by cases z)
    · cases h
  | ixs i q =>
    change (decide (d ≤ 1) && (match (generalizing := false) e with | .Subscript (.Name y _) ek _ => nmOk N sc y i && (mdK kd i 0 || mdK kd i 1) && isCon ek q | _ => false)) = true at h
    obtain ⟨hd, h⟩ := Bool.and_eq_true_iff.mp h
    split at h
    · simp only [Bool.and_eq_true] at h
      obtain ⟨⟨h1, h2⟩, h3⟩ := h
      obtain ⟨a1, a2, a3, a4⟩ := nmOk_of h1
      obtain ⟨b1, b2⟩ := isCon_rule (X := X) h3
      rcases Bool.or_eq_true_iff.mp h2 with h2 | h2
      · exact tF_le1 (s_ixs (by rw [hN]; exact a1) (O.vis _ a2) a3 a4 h2 O.hK b1 b2) hd (fun _ z => by cases z)
      · exact tF_le1 (s_ixs (by rw [hN]; exact a1) (O.vis _ a2) a3 a4 h2 O.hK b1 b2) hd (fun _ z => by cases z)
    · cases h
  | dne i q =>
    change (decide (d ≤ 1) && (match (generalizing := false) e with | .Compare (.Subscript (.Name y _) ek _) [.NotEq] [.List [] _] _ => nmOk N sc y i && mdK kd i 1 && isCon ek q | _ => false)) = true at h
    obtain ⟨hd, h⟩ := Bool.and_eq_true_iff.mp h
    split at h
    · simp only [Bool.and_eq_true] at h
      obtain ⟨⟨h1, h2⟩, h3⟩ := h
      obtain ⟨a1, a2, a3, a4⟩ := nmOk_of h1
      obtain ⟨b1, b2⟩ := isCon_rule (X := X) h3
      exact tF_le1 (s_dne (by rw [hN]; exact a1) (O.vis _ a2) a3 a4 (cm_rule O.units (c := .ne) (po := .NotEq) rfl) h2 O.hK b1 b2) hd (fun _ z => by cases z)
    · cases h
  | lc p it cs g y =>
    cases g with
    | nil =>
      change (match (generalizing := false) e with
        | .ListComp ee [⟨tg, ei, ifs, 0⟩] scope _ => ckI G N k sc kd tg ei it && notSet ei && ckTg N scope kd 0 tg p && ckCs G N k scope kd ifs cs && ckF G N k scope kd (d - 1) ee y &&
            blkC N sc scope (p.slots.map fun i => (N.getD i Str.empty, i)) && (match scope.kind with | .function => true | _ => false) && p.plain && p.slots.all (own0 kd)
        | _ => false) = true at h
      split at h
      · rename_i ee tg ei ifs scope pos
        simp only [Bool.and_eq_true] at h
        obtain ⟨⟨⟨⟨⟨⟨⟨⟨h1, h2⟩, h3⟩, h4⟩, h5⟩, h6⟩, h7⟩, h8⟩, h9⟩ := h
        have hk : ∀ i ∈ p.slots, kd[i]? = some (.own 0) := fun i hi => own0_of (List.all_eq_true.mp h9 i hi)
        have b := blkOk_of O h6
        have eo : (p.slots.map fun i => (N.getD i Str.empty, i)).map (·.2) = p.slots := by
          rw [List.map_map]
          show p.slots.map (fun i => i) = p.slots
          exact List.map_id' _
        have base := pe_lc (pos := pos) O.calm (by rw [hN]; exact O.nd) (S.i O h1) b (fun s H C cl fp => tg_rule (O.blk h7 s H C cl fp) h3) (fun s H C cl fp => S.cs (O.blk h7 s H C cl fp) h4) (fun s H C cl fp => S.f (O.blk h7 s H C cl fp) h5) (notSet_of h2)
        rw [eo] at base
        have r := PE.imp base (lc_imp h8 hk)
        cases d with
        | zero => exact tF_zero r (fun _ z => by cases z)
        | succ d => exact r
      · cases h
    | cons _ _ => cases h
  | call f io as =>
    cases io with
    | false =>
      change (match (generalizing := false) e with
        | .Call (.Name g _) (e1 :: es) [] _ => fnOk G sc g f && (match G.sig[f]? with | some s => noIo s.pk && (d == s.rk || d == 0) && ckKs G N k sc kd s.pk (e1 :: es) as | none => false)
        | .Call (.Name g _) [] [] _ => fnOk G sc g f && (match G.sig[f]? with | some s => noIo s.pk && (d == s.rk || d == 0) && s.pk.isEmpty && as.isEmpty | none => false)
        | _ => false) = true at h
      split at h
      · simp only [Bool.and_eq_true] at h
        obtain ⟨h1, h2⟩ := h
        obtain ⟨c1, c2, c3⟩ := fn_rule O h1
        obtain ⟨fa, fd, ps, F, b1, b2, b3, _⟩ := O.fns f _ c1
        split at h2
        · rename_i s hs
          simp only [Bool.and_eq_true] at h2
          obtain ⟨⟨q1, q2⟩, q3⟩ := h2
          obtain ⟨a1, a2⟩ := S.ks O q3
          obtain ⟨a3, a4⟩ := all_cons a2
          exact tF_or (PE.imp (g_call F O.gd O.room c2 b1 b2 b3 a1 c3 (starEach_of a3) (noneStar a4)) (call0_imp O.hK O.hC hs q1)) q2 (fun _ z => by cases z)
        · cases h2
      · simp only [Bool.and_eq_true] at h
        obtain ⟨h1, h2⟩ := h
        obtain ⟨c1, c2, c3⟩ := fn_rule O h1
        obtain ⟨fa, fd, ps, F, b1, b2, b3, _⟩ := O.fns f _ c1
        split at h2
        · rename_i s hs
          simp only [Bool.and_eq_true] at h2
          obtain ⟨⟨⟨q1, q2⟩, q3⟩, q4⟩ := h2
          have e1 : s.pk = [] := by simpa using q3
          have e2 : as = [] := by simpa using q4
          subst e2
          refine tF_or (PE.imp (g_call0 F O.gd O.room c2 b1 b2 b3 c3) fun σ H Q hq => ?_) q2 (fun _ z => by cases z)
          have := call0_imp (X := X) (E := E0) O.hK O.hC hs q1 σ H Q hq
          rw [e1] at this
          obtain ⟨F', env, tm, ts, env', R, nn, ev, q⟩ := this
          have ev : some (([] : List T), env) = some (ts, env') := ev
          cases ev
          exact q [] F' H .nil (by rw [List.append_nil]; exact R) (Same.refl F')
        · cases h2
      · cases h
    | true =>
      cases as with
      | nil => cases h
      | cons x0 as =>
        cases x0 with
        | nm i =>
          change (match (generalizing := false) e with
            | .Call (.Name g _) (.Name y _ :: es) [] _ => fnOk G sc g f && nmOk N sc y i && (match G.sig[f]? with
              | some s => (match s.pk with
                | .io m :: pks => (d == s.rk || d == 0) && (match kd[i]? with | some (.own m') => m == m' | some (.io m') => m == m' | _ => false) && ckKs G N k sc kd pks es as && as.all fun x => match x with | .nm j => !(j == i) | _ => true
                | _ => false)
              | none => false)
            | _ => false) = true at h
          split at h
          · simp only [Bool.and_eq_true] at h
            obtain ⟨⟨h1, h2⟩, h3⟩ := h
            obtain ⟨c1, c2, c3⟩ := fn_rule O h1
            obtain ⟨fa, fd, ps, F, b1, b2, b3, _⟩ := O.fns f _ c1
            obtain ⟨a1, a2, a3, a4⟩ := nmOk_of h2
            split at h3
            · rename_i s hs
              split at h3
              · rename_i m pks hp
                simp only [Bool.and_eq_true] at h3
                obtain ⟨⟨⟨q1, q2⟩, q3⟩, q4⟩ := h3
                obtain ⟨w1, w2⟩ := S.ks O q3
                have hk : kd[i]? = some (.own m) ∨ kd[i]? = some (.io m) := by
                  split at q2
                  · rename_i m' e
                    have : m = m' := by simpa using q2
                    subst this
                    exact .inl e
                  · rename_i m' e
                    have : m = m' := by simpa using q2
                    subst this
                    exact .inr e
                  · cases q2
                have hna : ∀ j, Ir.nm j ∈ as → j ≠ i := fun j hj => by
                  have := List.all_eq_true.mp q4 _ hj
                  simpa using this
                have st : ∀ {y : Str} {p : Pos} {es : List Expr}, starEach (.Name y p :: es) X.env = (false, eval (.Name y p) X.env) :: starEach es X.env := starEach_of rfl
                exact tF_or (PE.imp (g_call F O.gd O.room c2 b1 b2 b3 (pa_cons (pe_var (i := i) (by rw [hN]; exact a1) (O.vis _ a2) a3 a4) w1 st) c3 st (noneStar w2)) (call1_imp O.hK O.hC hs hp hk hna)) q1 (fun _ z => by cases z)
              · cases h3
            · cases h3
          · cases h
        | _ => cases h
  | callk f as perm =>
    change (match (generalizing := false) e with
      | .Call (.Name g _) es kws _ => fnOk G sc g f && (match G.sig[f]? with
        | some s => noIo s.pk && pkOk s.pk && (d == s.rk || d == 0) &&
            ckKs G N k sc kd (pkW s.pk perm (es.length + kws.length) |>.take es.length) es (as.take es.length) && ckKw G N k sc kd ((pkW s.pk perm (es.length + kws.length)).drop es.length) kws (as.drop es.length) &&
            okPerm s.pk (pkW s.pk perm (es.length + kws.length)) perm && (as.take es.length).all (fun x => stK io0 kd x (as.drop es.length)) && G.kw.contains (f, kws.filterMap kwName, es.length, perm) && kws.all (fun w => (kwName w).isSome)
        | none => false)
      | _ => false) = true at h
    split at h
    · rename_i g _ es kws _
      simp only [Bool.and_eq_true] at h
      obtain ⟨h1, h2⟩ := h
      obtain ⟨c1, c2, c3⟩ := fn_rule O h1
      obtain ⟨fa, fd, ps, F, b1, b2, _, b4⟩ := O.fns f _ c1
      split at h2
      · rename_i s hs
        simp only [Bool.and_eq_true] at h2
        obtain ⟨⟨⟨⟨⟨⟨⟨⟨q1, q2⟩, q3⟩, q4⟩, q5⟩, q6⟩, q7⟩, q8⟩, q9⟩ := h2
        obtain ⟨w1, w2⟩ := S.ks O q4
        have w3 := S.kw O q5
        obtain ⟨n1, n2, n3⟩ := kws_names (env := X.env) (pos := _) q9
        have hkb := b4 _ _ _ (by simpa using q8)
        have hperm : okPerm s.pk ((pkW s.pk perm (es.length + kws.length)).take es.length ++ (pkW s.pk perm (es.length + kws.length)).drop es.length) perm = true := by
          rw [List.take_append_drop]; exact q6
        have eas : as = as.take es.length ++ as.drop es.length := (List.take_append_drop _ _).symm
        have imp := callk_imp (A := A) (kd := kd) (X := X) (as1 := as.take es.length) (as2 := as.drop es.length) O.hK O.hC hs q1 q2 hperm (by rw [O.hio]; exact q7)
        rw [← eas] at imp
        have l1 : ((pkW s.pk perm (es.length + kws.length)).take es.length).length = es.length := by
          unfold pkW
          rw [List.length_take, List.length_map, List.length_range]
          omega
        have l2 : ((pkW s.pk perm (es.length + kws.length)).drop es.length).length = (kws.filterMap kwName).length := by
          have e1 := kw_len q9
          rw [e1]
          unfold pkW
          rw [List.length_drop, List.length_map, List.length_range]
          omega
        rw [l1, l2] at imp
        cases es with
        | nil =>
          have w1' : ∀ σ H Q, tKs A kd ((pkW s.pk perm (([] : List Expr).length + kws.length)).take ([] : List Expr).length) (as.take ([] : List Expr).length) σ H Q → tNil σ H Q := fun σ H Q hq => by
            rw [List.length_nil, List.take_zero, List.take_zero] at hq
            obtain ⟨F', env, tm, ts, env', R, nn, ev, q⟩ := hq
            have ev : some (([] : List T), env) = some (ts, env') := ev
            cases ev
            exact q [] F' H .nil (by rw [List.append_nil]; exact R) (Same.refl F')
          exact tF_or (PE.imp (g_callN0 F O.gd O.room c2 b1 b2 hkb w3 n1 n2 c3 (by rw [n3]; rfl)) fun σ H Q hq => w1' σ H _ (imp σ H Q hq)) q3 (fun _ z => by cases z)
        | cons e1 es =>
          have w2' : noStar e1 = true ∧ es.all noStar = true := by simpa using w2
          exact tF_or (PE.imp (g_callN F O.gd O.room c2 b1 b2 hkb w1 w3 n1 n2 c3 (starEach_of w2'.1) (by rw [noneStar w2, n3]; rfl)) imp) q3 (fun _ z => by cases z)
      · cases h2
    · cases h
  | _ => cases h
end
end Pv
end

section
set_option Elab.async false
set_option linter.all false
set_option maxRecDepth 100000
set_option maxHeartbeats 2000000
/-! PvZ4: the check of statements and of a whole text. -/
namespace Pv
open PySem PySem.Spec PyProof.Rows L2

theorem snd_all {G : Glb} {N : List Str} {tbl : List Fn} : ∀ k, Snd G N tbl k
  | 0 => ⟨fun _ _ _ h => (Bool.false_ne_true h).elim, fun _ _ _ _ h => (Bool.false_ne_true h).elim, fun _ _ _ h => (Bool.false_ne_true h).elim, fun _ _ _ _ _ h => (Bool.false_ne_true h).elim, fun _ _ _ _ _ h => (Bool.false_ne_true h).elim, fun _ _ _ _ h => (Bool.false_ne_true h).elim, fun _ _ _ h => (Bool.false_ne_true h).elim, fun _ _ _ _ h => (Bool.false_ne_true h).elim, fun _ _ _ _ h => (Bool.false_ne_true h).elim, fun _ _ _ h => (Bool.false_ne_true h).elim, fun _ _ _ _ h => (Bool.false_ne_true h).elim, fun _ _ _ h => (Bool.false_ne_true h).elim, fun _ _ _ h => (Bool.false_ne_true h).elim⟩
  | k + 1 => ⟨fun O _ _ h => snd_r (snd_all k) O h, fun O _ _ _ h => snd_f (snd_all k) O h, fun O _ _ h => snd_t (snd_all k) O h, fun O _ _ _ _ h => snd_wa (snd_all k) O h, fun O _ _ _ _ h => snd_wo (snd_all k) O h,
    fun O _ _ _ h => snd_ds (snd_all k) O h, fun O _ _ h => snd_as (snd_all k) O h, fun O _ _ _ h => snd_ks (snd_all k) O h, fun O _ _ _ h => snd_kw (snd_all k) O h, fun O _ _ h => snd_o (snd_all k) O h, fun O _ _ _ h => snd_i (snd_all k) O h, fun O _ _ h => snd_cs (snd_all k) O h, fun O _ _ h => snd_z (snd_all k) O h⟩

def isFold (e : Expr) : Bool := foldedForSure 8 e
/-- a, b = x, y that are stored from the right -/
def swB (px : List Pos) (es : List Expr) : Bool := es.all noStar && !(es.all (foldedForSure 8)) && !(es.all (constantsAlone 8)) && px.all (fun p => p.line == ((px.head?).map (·.line)).getD 0)
section
variable (G : Glb) (N : List Str) (fl : Nat) (sc : Scope) (dep : List Nat) (rk : Nat)
def isLc : Ir → Bool
  | .lc _ _ _ [] _ => true
  | _ => false
def lclAt (x : Str) (i : Nat) : Bool := decide (N[i]? = some x) && lclB sc x
def celB (y : Str) : Bool := match sc.names.lookup y with
  | some .cell => true
  | _ => false
/-- no stores that are turned about: no display, or a name among the targets that a comprehension keeps -/
def noSw (tg ex : Expr) : Bool := notTup ex || (match tg with | .Tuple ts _ _ => ts.any (fun t => match t with | .Name y _ => celB sc y | _ => false) | _ => false)
/-- name = [..] on one line -/
def compLine (tg ex : Expr) : Option Bool := match tg, ex with
  | .Name y py, .ListComp _ _ scope pos => if py.line == pos.line then (if lclB sc y && !(scope.names.any fun (n, k) => n == y && (k == .local || k == .cell)) then some true else if celB sc y then some false else none) else some false
  | _, e => if notComp e then some false else none
mutual
def ckSt : Nat → List Kd → Option (List Kd) → Stmt → Stm → Option (List Kd)
  | 0, _, _, _, _ => none
  | k + 1, kd, kl, st, s => match s with
    | .asg (.nm i) e => (match st with
      | .Assign [tg] ex _ =>
        if ckTg N sc kd (dep.getD i 0) tg (.nm i) && ckF G N fl sc kd (dep.getD i 0) ex e && (match compLine sc tg ex with
          | some true => (match tg with | .Name y _ => lclAt N sc y i && isLc e | _ => false)
          | some false => true
          | none => false)
        then some (kd.set i (.own (dep.getD i 0))) else none
      | _ => none)
    | .asg (.tup l) e => (match st with
      | .Assign [tg] ex _ => if ckTg N sc kd 0 tg (.tup l) && ckF G N fl sc kd 0 ex e && notComp ex && noSw sc tg ex then some (kdL kd l) else none
      | _ => none)
    | .asg (.star a q b) e => (match st with
      | .Assign [tg] ex _ => if ckTg N sc kd 0 tg (.star a q b) && ckF G N fl sc kd 0 ex e && notComp ex && notTup ex then some (kdP kd 0 (.star a q b)) else none
      | _ => none)
    | .par [i, j] [a, b] => (match st with
      | .Assign [.Tuple [.Name x px, .Name y py] _ _] (.Tuple [ea, eb] _ _) _ =>
        if lclAt N sc x i && lclAt N sc y j && !(i == j) && okSl kd [i, j] && noStar ea && noStar eb && ckF G N fl sc kd (dep.getD i 0) ea a && ckF G N fl sc kd (dep.getD j 0) eb b && swB [px, py] [ea, eb]
        then some ((kd.set j (.own (dep.getD j 0))).set i (.own (dep.getD i 0))) else none
      | _ => none)
    | .par [i, j, q] [a, b, c] => (match st with
      | .Assign [.Tuple [.Name x px, .Name y py, .Name z pz] _ _] (.Tuple [ea, eb, ec] _ _) _ =>
        if lclAt N sc x i && lclAt N sc y j && lclAt N sc z q && !(i == j) && !(i == q) && !(j == q) && okSl kd [i, j, q] && noStar ea && noStar eb && noStar ec && ckF G N fl sc kd (dep.getD i 0) ea a && ckF G N fl sc kd (dep.getD j 0) eb b && ckF G N fl sc kd (dep.getD q 0) ec c && swB [px, py, pz] [ea, eb, ec]
        then some (((kd.set q (.own (dep.getD q 0))).set j (.own (dep.getD j 0))).set i (.own (dep.getD i 0))) else none
      | _ => none)
    | .setix i q e => (match st with
      | .Assign [.Subscript (.Name y _) ek _] ex _ =>
        if nmOk N sc y i && plainIx ek && notComp ex && ckR G N fl sc kd ek q && (match kd[i]? with | some (.own (d + 1)) => ckF G N fl sc kd d ex e | some (.io (d + 1)) => ckF G N fl sc kd d ex e | _ => false) then some kd else none
      | _ => none)
    | .aug i o e => (match st with
      | .AugAssign (.Name y _) po ex _ => if decide (N[i]? = some y) && locB sc y && own0 kd i && opOk o po && (match o with | .add => true | .sub => true | _ => false) && ckR G N fl sc kd ex e then some kd else none
      | _ => none)
    | .expr e => (match st with
      | .Expr ex _ => if ckF G N fl sc kd 0 ex e && notComp ex then some kd else none
      | _ => none)
    | .ret e => (match st with
      | .Return (some ex) _ => if ckF G N fl sc kd rk ex e || (match e, ex with | .nm i, .Name y _ => nmOk N sc y i && decide (kd[i]? = some (.own rk)) | _, _ => false) then some kd else none
      | _ => none)
    | .retN => (match st with | .Return none _ => some kd | _ => none)
    | .brk => (match st with | .Break _ => if kl = some kd then some kd else none | _ => none)
    | .cont => (match st with | .Continue _ => if kl = some kd then some kd else none | _ => none)
    | .ite c a b => (match st with
      | .If ec pa pb _ => if ckT G N fl sc kd ec c then (match ckBl k kd kl pa a, ckBl k kd kl pb b with
        | some ka, some kb => if fallsB a then (if fallsB b then (if ka = kb then some ka else none) else some ka) else some kb
        | _, _ => none) else none
      | _ => none)
    | .for_ p it b => (match st with
      | .For tg ei pb [] _ => if ckI G N fl sc kd tg ei it && notSet ei && ckTg N sc kd 0 tg p && p.plain && p.slots.all (own0 kd) then (match ckBl k kd (some kd) pb b with
        | some kb => if kb = kd ∨ fallsB b = false then some kd else none
        | none => none) else none
      | _ => none)
    | .while_ c b => (match st with
      | .While ec pb [] _ => if ckT G N fl sc kd ec c then (match ckBl k kd (some kd) pb b with
        | some kb => if kb = kd ∨ fallsB b = false then some kd else none
        | none => none) else none
      | _ => none)
    | _ => none
def ckBl : Nat → List Kd → Option (List Kd) → List Stmt → List Stm → Option (List Kd)
  | 0, _, _, _, _ => none
  | k + 1, kd, kl, sts, b => match b with
    | .frz i :: b => (match kd[i]? with | some (.own _) => ckBl k (kd.set i (.own 0)) kl sts b | _ => none)
    | b => (match sts with
      | .Pass _ :: sts => ckBl k kd kl sts b
      | st :: sts => (match b with
        | s :: b => (match ckSt k kd kl st s with | some kd' => ckBl k kd' kl sts b | none => none)
        | [] => none)
      | [] => (match b with | [] => some kd | _ :: _ => none))
end
end

section
variable {G : Glb} {N : List Str} {tbl : List Fn} {fl : Nat} {A : Act} {n : Nat} {sc : Scope} {kd : List Kd} {X : Cx} {dep : List Nat} {rk : Nat}
/-- a reading whose value is frozen serves where it need not be -/
theorem tF0_to {d : Nat} {x : Ir} : ∀ σ H Q, tF A kd 0 x σ H Q → tF A kd d x σ H Q := fun σ H Q ⟨F, env, tm, t, env', R, nn, ev, q⟩ => ⟨F, env, tm, t, env', R, nn, ev, fun v F1 H1 R1 s1 => by
  obtain ⟨F2, R2, s2⟩ := R1.frz
  exact q v F2 H1 R2 (s1.trans s2)⟩
theorem lcl_of (O : XOk G tbl A n N sc X) {x : Str} {i : Nat} (h : lclAt N sc x i = true) : X.N[i]? = some x ∧ X.env.scope.names.lookup x = some .local := by
  unfold lclAt at h
  simp only [Bool.and_eq_true] at h
  rw [O.hN]
  exact ⟨of_decide_eq_true h.1, O.lcl x h.2⟩
theorem blockKind_of (O : XOk G tbl A n N sc X) : X.env.blockKind = .function := by
  unfold PySem.Env.blockKind
  rw [O.kind]; rfl
theorem swaps2 (O : XOk G tbl A n N sc X) {x y : Str} {px py : Pos} {ea eb : Expr} {kt k2 : Nat} {pt pt2 : Pos} (hx : X.env.scope.names.lookup x = some .local) (hy : X.env.scope.names.lookup y = some .local) (hne : x ≠ y) (h : swB [px, py] [ea, eb] = true) :
    swappedStores [.Tuple [.Name x px, .Name y py] kt pt] (.Tuple [ea, eb] k2 pt2) X.env = pure (some [x, y]) := by
  unfold swB at h
  simp only [Bool.and_eq_true, Bool.not_eq_true'] at h
  obtain ⟨⟨⟨h1, h2⟩, h3⟩, h4⟩ := h
  have kx : X.env.kindOf x = some .local := hx
  have ky : X.env.kindOf y = some .local := hy
  have bk := blockKind_of O
  have h4' : (px.line == px.line) = true ∧ (py.line == px.line) = true := by simpa using h4
  have hs : ([ea, eb].any fun | .Starred .. => true | _ => false) = false := by
    have h1' : noStar ea = true ∧ noStar eb = true := by simpa using h1
    cases ea <;> cases eb <;> first | rfl | (cases h1'.1; done) | (cases h1'.2; done)
  have hall : ([ea, eb].all (foldedForSure 8)) = false := h2
  have hcon : ([ea, eb].all (constantsAlone 8)) = false := h3
  have e1 : (X.env.kindOf x == some .local && px.line == px.line) = true := by rw [kx, h4'.1]; rfl
  have e2 : (X.env.kindOf y == some .local && py.line == px.line) = true := by rw [ky, h4'.2]; rfl
  have e3 : ([x, y] : List Str).eraseDups.length = 2 := by
    have : (y == x) = false := by simpa using fun z : y = x => hne z.symm
    simp [List.eraseDups, List.eraseDupsBy, List.eraseDupsBy.loop, this]
  have e4 : ([Expr.Name x px, Expr.Name y py].filterMap fun
    | .Name id pos => if X.env.kindOf id == some .local && pos.line == px.line then some id else none
    | _ => none) = [x, y] := by
    simp only [List.filterMap_cons, List.filterMap_nil]
    rw [if_pos e1, if_pos e2]
  show (if (!(2 == 2 || 2 == 3) || 2 != 2 || X.env.blockKind != .function) = true then (pure none : Sem (Option (List Str))) else
    if ([ea, eb].any fun | .Starred .. => true | _ => false) = true then pure none else _) = _
  rw [if_neg (by rw [bk]; decide), hs, if_neg Bool.false_ne_true]
  show (if ((([Expr.Name x px, Expr.Name y py].filterMap fun
    | .Name id pos => if X.env.kindOf id == some .local && pos.line == px.line then some id else none
    | _ => none).length != 2 || (([Expr.Name x px, Expr.Name y py].filterMap fun
    | .Name id pos => if X.env.kindOf id == some .local && pos.line == px.line then some id else none
    | _ => none).eraseDups.length != ([Expr.Name x px, Expr.Name y py].filterMap fun
    | .Name id pos => if X.env.kindOf id == some .local && pos.line == px.line then some id else none
    | _ => none).length)) = true) then (pure none : Sem (Option (List Str))) else _) = _
  rw [e4, if_neg (by rw [e3]; simp)]
  rw [hall, if_neg Bool.false_ne_true]
  simp only [hcon]
  rw [if_neg Bool.false_ne_true]
  exact congrArg (fun l => (pure (some l) : Sem (Option (List Str)))) e4
theorem swaps3 (O : XOk G tbl A n N sc X) {x y z : Str} {px py pz : Pos} {ea eb ec : Expr} {kt k2 : Nat} {pt pt2 : Pos} (hx : X.env.scope.names.lookup x = some .local) (hy : X.env.scope.names.lookup y = some .local) (hz : X.env.scope.names.lookup z = some .local) (hxy : x ≠ y) (hxz : x ≠ z) (hyz : y ≠ z) (h : swB [px, py, pz] [ea, eb, ec] = true) :
    swappedStores [.Tuple [.Name x px, .Name y py, .Name z pz] kt pt] (.Tuple [ea, eb, ec] k2 pt2) X.env = pure (some [x, y, z]) := by
  unfold swB at h
  simp only [Bool.and_eq_true, Bool.not_eq_true'] at h
  obtain ⟨⟨⟨h1, h2⟩, h3⟩, h4⟩ := h
  have kx : X.env.kindOf x = some .local := hx
  have ky : X.env.kindOf y = some .local := hy
  have kz : X.env.kindOf z = some .local := hz
  have bk := blockKind_of O
  have h4' : (px.line == px.line) = true ∧ (py.line == px.line) = true ∧ (pz.line == px.line) = true := by simpa using h4
  have hs : ([ea, eb, ec].any fun | .Starred .. => true | _ => false) = false := by
    rw [List.any_eq_false]
    intro e he hp
    have := List.all_eq_true.mp h1 e he
    cases e <;> first | (cases hp; done) | (cases this; done)
  have hall : ([ea, eb, ec].all (foldedForSure 8)) = false := h2
  have hcon : ([ea, eb, ec].all (constantsAlone 8)) = false := h3
  have e1 : (X.env.kindOf x == some .local && px.line == px.line) = true := by rw [kx, h4'.1]; rfl
  have e2 : (X.env.kindOf y == some .local && py.line == px.line) = true := by rw [ky, h4'.2.1]; rfl
  have e2' : (X.env.kindOf z == some .local && pz.line == px.line) = true := by rw [kz, h4'.2.2]; rfl
  have e3 : ([x, y, z] : List Str).eraseDups.length = 3 := by
    have t1 : (y == x) = false := by simpa using fun w : y = x => hxy w.symm
    have t2 : (z == x) = false := by simpa using fun w : z = x => hxz w.symm
    have t3 : (z == y) = false := by simpa using fun w : z = y => hyz w.symm
    simp [List.eraseDups, List.eraseDupsBy, List.eraseDupsBy.loop, t1, t2, t3]
  have e4 : ([Expr.Name x px, Expr.Name y py, Expr.Name z pz].filterMap fun
    | .Name id pos => if X.env.kindOf id == some .local && pos.line == px.line then some id else none
    | _ => none) = [x, y, z] := by
    simp only [List.filterMap_cons, List.filterMap_nil]
    rw [if_pos e1, if_pos e2, if_pos e2']
  show (if (!(3 == 2 || 3 == 3) || 3 != 3 || X.env.blockKind != .function) = true then (pure none : Sem (Option (List Str))) else
    if ([ea, eb, ec].any fun | .Starred .. => true | _ => false) = true then pure none else _) = _
  rw [if_neg (by rw [bk]; decide), hs, if_neg Bool.false_ne_true]
  show (if ((([Expr.Name x px, Expr.Name y py, Expr.Name z pz].filterMap fun
    | .Name id pos => if X.env.kindOf id == some .local && pos.line == px.line then some id else none
    | _ => none).length != 3 || (([Expr.Name x px, Expr.Name y py, Expr.Name z pz].filterMap fun
    | .Name id pos => if X.env.kindOf id == some .local && pos.line == px.line then some id else none
    | _ => none).eraseDups.length != ([Expr.Name x px, Expr.Name y py, Expr.Name z pz].filterMap fun
    | .Name id pos => if X.env.kindOf id == some .local && pos.line == px.line then some id else none
    | _ => none).length)) = true) then (pure none : Sem (Option (List Str))) else _) = _
  rw [e4, if_neg (by rw [e3]; simp)]
  rw [hall, if_neg Bool.false_ne_true]
  simp only [hcon]
  rw [if_neg Bool.false_ne_true]
  exact congrArg (fun l => (pure (some l) : Sem (Option (List Str)))) e4
/-- what the check of a comprehension gives, in parts -/
theorem lc_parts (O : XOk G tbl A n N sc X) {k d : Nat} {ee tg ei : Expr} {ifs : List Expr} {scope : Scope} {pos : Pos} {p : Pat} {it : Wk} {cs : List Ir} {y : Ir} (h : ckF G N (k + 1) sc kd d (.ListComp ee [⟨tg, ei, ifs, 0⟩] scope pos) (.lc p it cs [] y) = true) :
    ckI G N k sc kd tg ei it = true ∧ notSet ei = true ∧ ckTg N scope kd 0 tg p = true ∧ ckCs G N k scope kd ifs cs = true ∧ ckF G N k scope kd (d - 1) ee y = true ∧
          blkC N sc scope (p.slots.map fun i => (N.getD i Str.empty, i)) = true ∧ (match scope.kind with | .function => true | _ => false) = true ∧ p.plain = true ∧ p.slots.all (own0 kd) = true := by
  have h : (ckI G N k sc kd tg ei it && notSet ei && ckTg N scope kd 0 tg p && ckCs G N k scope kd ifs cs && ckF G N k scope kd (d - 1) ee y &&
          blkC N sc scope (p.slots.map fun i => (N.getD i Str.empty, i)) && (match scope.kind with | .function => true | _ => false) && p.plain && p.slots.all (own0 kd)) = true := h
  simp only [Bool.and_eq_true] at h
  obtain ⟨⟨⟨⟨⟨⟨⟨⟨h1, h2⟩, h3⟩, h4⟩, h5⟩, h6⟩, h7⟩, h8⟩, h9⟩ := h
  exact ⟨h1, h2, h3, h4, h5, h6, h7, h8, h9⟩
theorem cel_not (O : XOk G tbl A n N sc X) {y : Str} (h : celB sc y = true) : (X.env.kindOf y == some .local) = false := by
  unfold celB at h
  split at h
  · rename_i e
    rcases O.clo y (.inl e) with z | z <;> (have z : X.env.kindOf y = _ := z; rw [z]; rfl)
  · cases h
theorem noSw_of {tg ex : Expr} (O : XOk G tbl A n N sc X) (h : noSw sc tg ex = true) : swappedStores [tg] ex X.env = pure none := by
  by_cases h1 : notTup ex = true
  · exact notTup_of h1
  · unfold noSw at h
    have h1 : notTup ex = false := by simpa using h1
    rw [h1, Bool.false_or] at h
    unfold notTup at h1
    split at h1
    · rename_i vs k2 p2 _
      split at h
      · rename_i ts k1 p1
        obtain ⟨t, ht, h⟩ := List.any_eq_true.mp h
        split at h
        · rename_i y py
          have hc := cel_not O h
          show (if (!(ts.length == 2 || ts.length == 3) || vs.length != ts.length || X.env.blockKind != .function) = true then (pure none : Sem (Option (List Str))) else
            if (vs.any fun | .Starred .. => true | _ => false) = true then pure none else
            if (((ts.filterMap fun
              | .Name id pos => if X.env.kindOf id == some .local && pos.line == ((ts.head?.map (·.pos.line)).getD 0) then some id else none
              | _ => none).length != ts.length || ((ts.filterMap fun
              | .Name id pos => if X.env.kindOf id == some .local && pos.line == ((ts.head?.map (·.pos.line)).getD 0) then some id else none
              | _ => none).eraseDups.length != (ts.filterMap fun
              | .Name id pos => if X.env.kindOf id == some .local && pos.line == ((ts.head?.map (·.pos.line)).getD 0) then some id else none
              | _ => none).length)) = true) then (pure none : Sem (Option (List Str))) else _) = _
          split
          · rfl
          · split
            · rfl
            · rw [if_pos]
              have lt : (ts.filterMap fun
                | .Name id pos => if X.env.kindOf id == some .local && pos.line == ((ts.head?.map (·.pos.line)).getD 0) then some id else none
                | _ => none).length < ts.length := List.length_filterMap_lt_length_iff_exists.mpr ⟨_, ht, by
                  show (if (X.env.kindOf y == some .local && py.line == ((ts.head?.map (·.pos.line)).getD 0)) = true then some y else none) = none
                  rw [hc]; rfl⟩
              rw [Bool.or_eq_true]
              exact .inl (bne_iff_ne.mpr (Nat.ne_of_lt lt))
        · cases h
      · cases h
    · cases h1
theorem compLine_false {tg ex : Expr} {l : Nat} (O : XOk G tbl A n N sc X) (h : compLine sc tg ex = some false) : swapsWith ex (some tg) l X.env = pure false := by
  unfold compLine at h
  split at h
  · rename_i y py ee gs scope pos
    by_cases e : (py.line == pos.line) = true
    · rw [if_pos e] at h
      split at h
      · cases h
      · split at h
        · rename_i hc
          show (pure (X.env.blockKind == .function && X.env.kindOf y == some .local && py.line == pos.line && !(scope.names.any fun (n, k) => n == y && (k == .local || k == .cell))) : Sem Bool) = pure false
          rw [cel_not O hc, Bool.and_false, Bool.false_and, Bool.false_and]
        · cases h
    · have bk := blockKind_of O
      have e' : (py.line == pos.line) = false := by simpa using e
      show (pure (X.env.blockKind == .function && X.env.kindOf y == some .local && py.line == pos.line && !(scope.names.any fun (n, k) => n == y && (k == .local || k == .cell))) : Sem Bool) = pure false
      rw [e', Bool.and_false, Bool.false_and]
  · split at h
    · exact notComp_of (by assumption)
    · cases h
theorem compLine_true {y : Str} {py : Pos} {ex : Expr} {l : Nat} (O : XOk G tbl A n N sc X) (h : compLine sc (.Name y py) ex = some true) : ∃ ee gs scope pos, ex = .ListComp ee gs scope pos ∧ swapsWith ex (some (.Name y py)) l X.env = pure true := by
  unfold compLine at h
  split at h
  · rename_i y' py' ee gs scope pos e0
    cases e0
    by_cases e : (py.line == pos.line) = true
    · rw [if_pos e] at h
      split at h
      · rename_i h2
        simp only [Bool.and_eq_true, Bool.not_eq_true'] at h2
        exact ⟨ee, gs, scope, pos, rfl, sw_true O.kind (O.lcl y h2.1) e h2.2⟩
      · split at h <;> cases h
    · rw [if_neg e] at h; cases h
  · split at h
    · cases h
    · cases h
/-- what the check of statements gives -/
structure SndS (G : Glb) (N : List Str) (tbl : List Fn) (fl : Nat) (A : Act) (n : Nat) (sc : Scope) (X : Cx) (dep : List Nat) (rk k : Nat) : Prop where
  s : ∀ {kd kl st x kd'}, ckSt G N fl sc dep rk k kd kl st x = some kd' → PS X st (tS A rk kd kd' kl x)
  b : ∀ {kd kl st x kd'}, ckBl G N fl sc dep rk k kd kl st x = some kd' → PSs X st (tB A rk kd kd' kl x)
theorem ite_some {α : Type} {c : Bool} {a b : α} (h : (if c = true then some a else none) = some b) : c = true ∧ a = b := by
  by_cases hc : c = true
  · rw [if_pos hc] at h
    exact ⟨hc, Option.some.inj h⟩
  · rw [if_neg hc] at h; cases h
theorem lc_back {d : Nat} {p : Pat} {it : Wk} {cs : List Ir} {y : Ir} (hp : p.plain = true) (hk : ∀ i ∈ p.slots, kd[i]? = some (.own 0)) : ∀ σ H Q, tF A kd d (.lc p it cs [] y) σ H Q → tLc (tI A kd it) (gT A kd 0 p) (tCs A kd cs) (tF A kd (d - 1) y) p.slots σ H Q := fun σ H Q hq => by
  cases d with
  | zero => exact lc_imp hp hk σ H Q (tF0_to σ H Q hq)
  | succ d => exact lc_imp hp hk σ H Q hq
theorem st_setLc (O : XOk G tbl A n N sc X) {k d i : Nat} {y : Str} {py spos : Pos} {ex : Expr} {e : Ir} {kl : Option (List Kd)} (hsw : ∃ ee gs scope pos, ex = .ListComp ee gs scope pos ∧ swapsWith ex (some (.Name y py)) spos.line X.env = pure true) (hy : lclAt N sc y i = true) (hlc : isLc e = true) (ok : okSl kd [i] = true) (h : ckF G N k sc kd d ex e = true) :
    PS X (.Assign [.Name y py] ex spos) (tS A rk kd (kd.set i (.own d)) kl (.asg (.nm i) e)) := by
  obtain ⟨ee, gs, scope, pos, rfl, hsw⟩ := hsw
  obtain ⟨a1, a2⟩ := lcl_of O hy
  cases k with
  | zero => exact (Bool.false_ne_true h).elim
  | succ k =>
    cases e with
    | lc p it cs g x =>
      cases g with
      | nil =>
        have h0 : (match (generalizing := false) (Expr.ListComp ee gs scope pos) with
          | .ListComp ee [⟨tg, ei, ifs, 0⟩] scope _ => ckI G N k sc kd tg ei it && notSet ei && ckTg N scope kd 0 tg p && ckCs G N k scope kd ifs cs && ckF G N k scope kd (d - 1) ee x &&
              blkC N sc scope (p.slots.map fun i => (N.getD i Str.empty, i)) && (match scope.kind with | .function => true | _ => false) && p.plain && p.slots.all (own0 kd)
          | _ => false) = true := h
        split at h0
        · rename_i e0
          cases e0
          obtain ⟨h1, h2, h3, h4, h5, h6, h7, h8, h9⟩ := lc_parts O h
          have hk : ∀ i ∈ p.slots, kd[i]? = some (.own 0) := fun i hi => own0_of (List.all_eq_true.mp h9 i hi)
          have b := blkOk_of O h6
          have eo : (p.slots.map fun i => (N.getD i Str.empty, i)).map (·.2) = p.slots := by
            rw [List.map_map]
            show p.slots.map (fun i => i) = p.slots
            exact List.map_id' _
          have S := snd_all (G := G) (N := N) (tbl := tbl) k
          have base := ps_setLc (spos := spos) (py := py) O.calm (by rw [O.hN]; exact O.nd) a1 a2 hsw (S.i O h1) b (fun s H C cl fp => tg_rule (O.blk h7 s H C cl fp) h3) (fun s H C cl fp => S.cs (O.blk h7 s H C cl fp) h4) (fun s H C cl fp => S.f (O.blk h7 s H C cl fp) h5) (notSet_of h2)
          rw [eo] at base
          exact PS.imp base fun D σ H hq => lc_back h8 hk σ H _ (asgN_imp (d := d) ok D σ H hq)
        · cases h0
      | cons _ _ => exact (Bool.false_ne_true hlc).elim
    | _ => exact (Bool.false_ne_true hlc).elim
theorem ne_of_ix {M : List Str} {i j : Nat} {x y : Str} (nd : M.Nodup) (a : M[i]? = some x) (b : M[j]? = some y) (h : i ≠ j) : x ≠ y := fun z => h (nodup_ix nd a (by rw [z]; exact b))
theorem asg1 {tg : Expr} {env : PySem.Env} {p : Pat} {d : Nat} (h : ckTg N sc kd d tg p = true) : (assignEach [tg] env).map (·.2) = [assign tg env] := by
  cases p <;> cases tg <;> first | rfl | exact (Bool.false_ne_true h).elim
theorem snd_st {k : Nat} (O : XOk G tbl A n N sc X) (S : SndS G N tbl fl A n sc X dep rk k) {kd : List Kd} {kl : Option (List Kd)} {st : Stmt} {x : Stm} {kd' : List Kd} (h : ckSt G N fl sc dep rk (k + 1) kd kl st x = some kd') : PS X st (tS A rk kd kd' kl x) := by
  have E := snd_all (G := G) (N := N) (tbl := tbl) fl
  cases x with
  | asg p e =>
    cases p with
    | nm i =>
      change (match (generalizing := false) st with
        | .Assign [tg] ex _ =>
          if (ckTg N sc kd (dep.getD i 0) tg (.nm i) && ckF G N fl sc kd (dep.getD i 0) ex e && (match (generalizing := false) compLine sc tg ex with
            | some true => (match (generalizing := false) tg with | .Name y _ => lclAt N sc y i && isLc e | _ => false)
            | some false => true
            | none => false)) = true
          then some (kd.set i (.own (dep.getD i 0))) else none
        | _ => none) = some kd' at h
      split at h
      · rename_i tg ex pos
        obtain ⟨hh, e0⟩ := ite_some h; clear h; subst e0; have h := hh; clear hh
        simp only [Bool.and_eq_true] at h
        obtain ⟨⟨h1, h2⟩, h3⟩ := h
        split at h3
        · rename_i hc
          split at h3
          · rename_i y py
            obtain ⟨h3, h4⟩ := Bool.and_eq_true_iff.mp h3
            have hok : okSl kd [i] = true := by
              have h1 : (decide (N[i]? = some y) && locB sc y && okSl kd [i]) = true := h1
              exact (Bool.and_eq_true_iff.mp h1).2
            exact st_setLc O (compLine_true O hc) h3 h4 hok h2
          · cases h3
        · rename_i hc
          have hw : swappedStores [tg] ex X.env = pure none := by
            change (match (generalizing := false) tg with | .Name y _ => decide (N[i]? = some y) && locB sc y && okSl kd [i] | _ => false) = true at h1
            split at h1
            · rfl
            · cases h1
          exact st_asg (E.f O h2) (tg_rule O h1) (compLine_false O hc) hw (asg1 h1)
        · cases h3
      · cases h
    | tup l =>
      change (match (generalizing := false) st with
        | .Assign [tg] ex _ => if (ckTg N sc kd 0 tg (.tup l) && ckF G N fl sc kd 0 ex e && notComp ex && noSw sc tg ex) = true then some (kdL kd l) else none
        | _ => none) = some kd' at h
      split at h
      · obtain ⟨hh, e0⟩ := ite_some h; clear h; subst e0; have h := hh; clear hh
        simp only [Bool.and_eq_true] at h
        obtain ⟨⟨⟨h1, h2⟩, h3⟩, h4⟩ := h
        exact st_asg (d := 0) (E.f O h2) (tg_rule O h1) (notComp_of h3) (noSw_of O h4) (asg1 h1)
      · cases h
    | star a q b =>
      change (match (generalizing := false) st with
        | .Assign [tg] ex _ => if (ckTg N sc kd 0 tg (.star a q b) && ckF G N fl sc kd 0 ex e && notComp ex && notTup ex) = true then some (kdP kd 0 (.star a q b)) else none
        | _ => none) = some kd' at h
      split at h
      · obtain ⟨hh, e0⟩ := ite_some h; clear h; subst e0; have h := hh; clear hh
        simp only [Bool.and_eq_true] at h
        obtain ⟨⟨⟨h1, h2⟩, h3⟩, h4⟩ := h
        exact st_asg (d := 0) (E.f O h2) (tg_rule O h1) (notComp_of h3) (notTup_of h4) (asg1 h1)
      · cases h
  | expr e =>
    change (match (generalizing := false) st with
      | .Expr ex _ => if (ckF G N fl sc kd 0 ex e && notComp ex) = true then some kd else none
      | _ => none) = some kd' at h
    split at h
    · obtain ⟨hh, e0⟩ := ite_some h; clear h; subst e0; have h := hh; clear hh
      simp only [Bool.and_eq_true] at h
      exact st_expr (E.f O h.1) (notComp_of h.2)
    · cases h
  | retN =>
    change (match (generalizing := false) st with | .Return none _ => some kd | _ => none) = some kd' at h
    split at h
    · cases h
      exact st_retN
    · cases h
  | ret e =>
    change (match (generalizing := false) st with
      | .Return (some ex) _ => if (ckF G N fl sc kd rk ex e || (match (generalizing := false) e, ex with | .nm i, .Name y _ => nmOk N sc y i && decide (kd[i]? = some (.own rk)) | _, _ => false)) = true then some kd else none
      | _ => none) = some kd' at h
    split at h
    · obtain ⟨hh, e0⟩ := ite_some h; clear h; subst e0; have h := hh; clear hh
      rcases Bool.or_eq_true_iff.mp h with h | h
      · exact st_ret (E.f O h)
      · split at h
        · simp only [Bool.and_eq_true] at h
          obtain ⟨a1, a2, a3, a4⟩ := nmOk_of h.1
          exact st_retNm (by rw [O.hN]; exact a1) (O.vis _ a2) a3 a4 (of_decide_eq_true h.2)
        · cases h
    · cases h
  | brk =>
    change (match (generalizing := false) st with | .Break _ => if kl = some kd then some kd else none | _ => none) = some kd' at h
    split at h
    · by_cases e : kl = some kd
      · exact st_brk e
      · rw [if_neg e] at h; cases h
    · cases h
  | cont =>
    change (match (generalizing := false) st with | .Continue _ => if kl = some kd then some kd else none | _ => none) = some kd' at h
    split at h
    · by_cases e : kl = some kd
      · exact st_cont e
      · rw [if_neg e] at h; cases h
    · cases h
  | aug i o e =>
    change (match (generalizing := false) st with
      | .AugAssign (.Name y _) po ex _ => if (decide (N[i]? = some y) && locB sc y && own0 kd i && opOk o po && (match (generalizing := false) o with | .add => true | .sub => true | _ => false) && ckR G N fl sc kd ex e) = true then some kd else none
      | _ => none) = some kd' at h
    split at h
    · obtain ⟨hh, e0⟩ := ite_some h; clear h; subst e0; have h := hh; clear hh
      simp only [Bool.and_eq_true] at h
      obtain ⟨⟨⟨⟨⟨h1, h2⟩, h3⟩, h4⟩, h5⟩, h6⟩ := h
      obtain ⟨c1, c2⟩ := O.loc _ h2
      cases o with
      | add =>
        rename_i po _ _
        cases po <;> first | (cases h4; done) | skip
        exact st_aug (f := fun i j => i + j) (by rw [O.hN]; exact O.nd) (by rw [O.hN]; exact of_decide_eq_true h1) c1 c2 (own0_of h3) ip_add (fun m n => rfl) (E.r O h6)
      | sub =>
        rename_i po _ _
        cases po <;> first | (cases h4; done) | skip
        exact st_aug (f := fun i j => i - j) (by rw [O.hN]; exact O.nd) (by rw [O.hN]; exact of_decide_eq_true h1) c1 c2 (own0_of h3) ip_sub (fun m n => rfl) (E.r O h6)
      | _ => cases h5
    · cases h
  | setix i q e =>
    change (match (generalizing := false) st with
      | .Assign [.Subscript (.Name y _) ek _] ex _ =>
        if (nmOk N sc y i && plainIx ek && notComp ex && ckR G N fl sc kd ek q && (match (generalizing := false) kd[i]? with | some (.own (d + 1)) => ckF G N fl sc kd d ex e | some (.io (d + 1)) => ckF G N fl sc kd d ex e | _ => false)) = true then some kd else none
      | _ => none) = some kd' at h
    split at h
    · rename_i y yp ek sp ex pos
      obtain ⟨hh, e0⟩ := ite_some h; clear h; subst e0; have h := hh; clear hh
      simp only [Bool.and_eq_true] at h
      obtain ⟨⟨⟨⟨h1, h2⟩, h3⟩, h4⟩, h5⟩ := h
      obtain ⟨a1, a2, a3, a4⟩ := nmOk_of h1
      have hass : ∀ v, assign (.Subscript (.Name y yp) ek sp) X.env v = (do
          let ov ← holding [v] (eval (.Name y yp) X.env)
          let iv ← holding [v, ov] (eval ek X.env)
          standAt sp
          holding [v, ov, iv] (setItem ov iv v)
          release [v, ov, iv] []) := by
        intro v
        cases ek <;> first | rfl | cases h2
      split at h5
      · rename_i d hd
        exact st_setix (d := d) (by rw [O.hN]; exact a1) (O.vis _ a2) a3 a4 (by unfold mdK; rw [hd]; simp) (E.f O h5) (E.r O h4) hass (show swapsWith ex (some (.Subscript (.Name y yp) ek sp)) pos.line X.env = pure false from notComp_of h3) (by rfl)
      · rename_i d hd
        exact st_setix (d := d) (by rw [O.hN]; exact a1) (O.vis _ a2) a3 a4 (by unfold mdK; rw [hd]; simp) (E.f O h5) (E.r O h4) hass (show swapsWith ex (some (.Subscript (.Name y yp) ek sp)) pos.line X.env = pure false from notComp_of h3) (by rfl)
      · cases h5
    · cases h
  | ite c a b =>
    change (match (generalizing := false) st with
      | .If ec pa pb _ => if ckT G N fl sc kd ec c = true then (match (generalizing := false) ckBl G N fl sc dep rk k kd kl pa a, ckBl G N fl sc dep rk k kd kl pb b with
        | some ka, some kb => if fallsB a = true then (if fallsB b = true then (if ka = kb then some ka else none) else some ka) else some kb
        | _, _ => none) else none
      | _ => none) = some kd' at h
    split at h
    · rename_i ec pa pb pos
      by_cases hc : ckT G N fl sc kd ec c = true
      · rw [if_pos hc] at h
        split at h
        · rename_i ka kb e1 e2
          by_cases f1 : fallsB a = true
          · rw [if_pos f1] at h
            by_cases f2 : fallsB b = true
            · rw [if_pos f2] at h
              by_cases e3 : ka = kb
              · rw [if_pos e3] at h
                cases h
                subst e3
                exact st_if (E.t O hc) (S.b e1) (S.b e2)
              · rw [if_neg e3] at h; cases h
            · rw [if_neg f2] at h
              cases h
              exact st_if (E.t O hc) (S.b e1) (b_never (by simpa using f2) (S.b e2))
          · rw [if_neg f1] at h
            cases h
            exact st_if (E.t O hc) (b_never (by simpa using f1) (S.b e1)) (S.b e2)
        · cases h
      · rw [if_neg hc] at h; cases h
    · cases h
  | for_ p it b =>
    change (match (generalizing := false) st with
      | .For tg ei pb [] _ => if (ckI G N fl sc kd tg ei it && notSet ei && ckTg N sc kd 0 tg p && p.plain && p.slots.all (own0 kd)) = true then (match (generalizing := false) ckBl G N fl sc dep rk k kd (some kd) pb b with
        | some kb => if kb = kd ∨ fallsB b = false then some kd else none
        | none => none) else none
      | _ => none) = some kd' at h
    split at h
    · rename_i tg ei pb pos
      by_cases hc : (ckI G N fl sc kd tg ei it && notSet ei && ckTg N sc kd 0 tg p && p.plain && p.slots.all (own0 kd)) = true
      · rw [if_pos hc] at h
        simp only [Bool.and_eq_true] at hc
        obtain ⟨⟨⟨⟨h1, h2⟩, h3⟩, h4⟩, h5⟩ := hc
        have hk : ∀ i ∈ p.slots, kd[i]? = some (.own 0) := fun i hi => own0_of (List.all_eq_true.mp h5 i hi)
        split at h
        · rename_i kb e1
          by_cases e2 : kb = kd ∨ fallsB b = false
          · rw [if_pos e2] at h
            cases h
            rcases e2 with e2 | e2
            · subst e2
              exact st_for O.po O.calm (E.i O h1) (tg_rule O h3) (S.b e1) h4 hk (notSet_of h2)
            · exact st_for O.po O.calm (E.i O h1) (tg_rule O h3) (b_never e2 (S.b e1)) h4 hk (notSet_of h2)
          · rw [if_neg e2] at h; cases h
        · cases h
      · rw [if_neg hc] at h; cases h
    · cases h
  | while_ c b =>
    change (match (generalizing := false) st with
      | .While ec pb [] _ => if ckT G N fl sc kd ec c = true then (match (generalizing := false) ckBl G N fl sc dep rk k kd (some kd) pb b with
        | some kb => if kb = kd ∨ fallsB b = false then some kd else none
        | none => none) else none
      | _ => none) = some kd' at h
    split at h
    · rename_i ec pb pos
      by_cases hc : ckT G N fl sc kd ec c = true
      · rw [if_pos hc] at h
        split at h
        · rename_i kb e1
          by_cases e2 : kb = kd ∨ fallsB b = false
          · rw [if_pos e2] at h
            cases h
            rcases e2 with e2 | e2
            · subst e2
              exact st_while O.po (E.t O hc) (S.b e1)
            · exact st_while O.po (E.t O hc) (b_never e2 (S.b e1))
          · rw [if_neg e2] at h; cases h
        · cases h
      · rw [if_neg hc] at h; cases h
    · cases h
  | frz i => cases h
  | par l es =>
    match l, es with
    | [i, j], [a, b] =>
      change (match (generalizing := false) st with
        | .Assign [.Tuple [.Name x px, .Name y py] _ _] (.Tuple [ea, eb] _ _) _ =>
          if (lclAt N sc x i && lclAt N sc y j && !(i == j) && okSl kd [i, j] && noStar ea && noStar eb && ckF G N fl sc kd (dep.getD i 0) ea a && ckF G N fl sc kd (dep.getD j 0) eb b && swB [px, py] [ea, eb]) = true
          then some ((kd.set j (.own (dep.getD j 0))).set i (.own (dep.getD i 0))) else none
        | _ => none) = some kd' at h
      split at h
      · obtain ⟨hh, e0⟩ := ite_some h; clear h; subst e0; have h := hh; clear hh
        simp only [Bool.and_eq_true, Bool.not_eq_true'] at h
        obtain ⟨⟨⟨⟨⟨⟨⟨⟨h1, h2⟩, h3⟩, h4⟩, h5⟩, h6⟩, h7⟩, h8⟩, h9⟩ := h
        obtain ⟨a1, a2⟩ := lcl_of O h1
        obtain ⟨b1, b2⟩ := lcl_of O h2
        have hij : i ≠ j := by simpa using h3
        have hxy : _ ≠ _ := ne_of_ix (by rw [O.hN]; exact O.nd) a1 b1 hij
        exact st_par2 O.calm (by rw [O.hN]; exact O.nd) a1 b1 hij a2 b2 h4 (d_cons (E.f O h7) (d_cons (E.f O h8) d_nil (star1 h6)) (starEach_of h5)) (swaps2 O a2 b2 hxy h9)
      · cases h
    | [i, j, q], [a, b, c] =>
      change (match (generalizing := false) st with
        | .Assign [.Tuple [.Name x px, .Name y py, .Name z pz] _ _] (.Tuple [ea, eb, ec] _ _) _ =>
          if (lclAt N sc x i && lclAt N sc y j && lclAt N sc z q && !(i == j) && !(i == q) && !(j == q) && okSl kd [i, j, q] && noStar ea && noStar eb && noStar ec && ckF G N fl sc kd (dep.getD i 0) ea a && ckF G N fl sc kd (dep.getD j 0) eb b && ckF G N fl sc kd (dep.getD q 0) ec c && swB [px, py, pz] [ea, eb, ec]) = true
          then some (((kd.set q (.own (dep.getD q 0))).set j (.own (dep.getD j 0))).set i (.own (dep.getD i 0))) else none
        | _ => none) = some kd' at h
      split at h
      · obtain ⟨hh, e0⟩ := ite_some h; clear h; subst e0; have h := hh; clear hh
        simp only [Bool.and_eq_true, Bool.not_eq_true'] at h
        obtain ⟨⟨⟨⟨⟨⟨⟨⟨⟨⟨⟨⟨⟨h1, h2⟩, h3⟩, h4⟩, h5⟩, h6⟩, h7⟩, h8⟩, h9⟩, h10⟩, h11⟩, h12⟩, h13⟩, h14⟩ := h
        obtain ⟨a1, a2⟩ := lcl_of O h1
        obtain ⟨b1, b2⟩ := lcl_of O h2
        obtain ⟨c1, c2⟩ := lcl_of O h3
        have hij : i ≠ j := by simpa using h4
        have hiq : i ≠ q := by simpa using h5
        have hjq : j ≠ q := by simpa using h6
        have hxy : _ ≠ _ := ne_of_ix (by rw [O.hN]; exact O.nd) a1 b1 hij
        have hxz : _ ≠ _ := ne_of_ix (by rw [O.hN]; exact O.nd) a1 c1 hiq
        have hyz : _ ≠ _ := ne_of_ix (by rw [O.hN]; exact O.nd) b1 c1 hjq
        exact st_par3 O.calm (by rw [O.hN]; exact O.nd) a1 b1 c1 hij hiq hjq a2 b2 c2 h7 (d_cons (E.f O h11) (d_cons (E.f O h12) (d_cons (E.f O h13) d_nil (star1 h10)) (starEach_of h9)) (starEach_of h8)) (swaps3 O a2 b2 c2 hxy hxz hyz h14)
      · cases h
    | [], _ => cases h
    | [_], _ => cases h
    | [_, _], [] => cases h
    | [_, _], [_] => cases h
    | [_, _], _ :: _ :: _ :: _ => cases h
    | [_, _, _], [] => cases h
    | [_, _, _], [_] => cases h
    | [_, _, _], [_, _] => cases h
    | [_, _, _], _ :: _ :: _ :: _ :: _ => cases h
    | _ :: _ :: _ :: _ :: _, _ => cases h
theorem snd_bl {k : Nat} (S : SndS G N tbl fl A n sc X dep rk k) {kd : List Kd} {kl : Option (List Kd)} {sts : List Stmt} {b : List Stm} {kd' : List Kd} (h : ckBl G N fl sc dep rk (k + 1) kd kl sts b = some kd') : PSs X sts (tB A rk kd kd' kl b) := by
  have rest : ∀ {b : List Stm}, (match (generalizing := false) sts with
      | .Pass _ :: sts => ckBl G N fl sc dep rk k kd kl sts b
      | st :: sts => (match (generalizing := false) b with
        | s :: b => (match (generalizing := false) ckSt G N fl sc dep rk k kd kl st s with | some kd' => ckBl G N fl sc dep rk k kd' kl sts b | none => none)
        | [] => none)
      | [] => (match (generalizing := false) b with | [] => some kd | _ :: _ => none)) = some kd' → PSs X sts (tB A rk kd kd' kl b) := fun {b} h => by
    split at h
    · exact b_pass (S.b h)
    · split at h
      · split at h
        · rename_i e1
          exact b_cons (S.s e1) (S.b h)
        · cases h
      · cases h
    · split at h
      · cases h
        exact b_nil
      · cases h
  cases b with
  | nil => exact rest h
  | cons s b =>
    cases s with
    | frz i =>
      change (match (generalizing := false) kd[i]? with | some (.own _) => ckBl G N fl sc dep rk k (kd.set i (.own 0)) kl sts b | _ => none) = some kd' at h
      split at h
      · rename_i d hd
        exact b_frz hd (S.b h)
      · cases h
    | _ => exact rest h
theorem sndS_all (O : XOk G tbl A n N sc X) : ∀ k, SndS G N tbl fl A n sc X dep rk k
  | 0 => ⟨fun h => (by cases h), fun h => (by cases h)⟩
  | k + 1 => ⟨fun h => snd_st O (sndS_all O k) h, fun h => snd_bl (sndS_all O k) h⟩
end
end Pv
end

section
set_option Elab.async false
set_option linter.all false
set_option maxRecDepth 100000
set_option maxHeartbeats 2000000
/-! PvZ5: a whole text by its check. -/
namespace Pv
open PySem PySem.Spec PyProof.Rows L2

/-- a def: its name, its text, its names (parameters first), its parameters, how deep its names' lists are its own -/
structure Df where
  name : Str
  st : Stmt
  N : List Str
  ps : List Str
  dep : List Nat
def scB (N ps : List Str) (sc : Scope) : Bool := (match sc.kind with | .function => true | _ => false) && !sc.isCoroutine && !sc.isGenerator && decide N.Nodup && decide (N.take ps.length = ps) &&
  (ps.all fun x => locB sc x) && sc.names.all fun y => match y.2 with | .free => false | _ => true
theorem scB_of {N ps : List Str} {sc : Scope} (h : scB N ps sc = true) : FnScope N ps sc := by
  unfold scB at h
  simp only [Bool.and_eq_true, Bool.not_eq_true'] at h
  obtain ⟨⟨⟨⟨⟨⟨h1, h2⟩, h3⟩, h4⟩, h5⟩, h6⟩, h7⟩ := h
  refine ⟨?_, h2, h3, of_decide_eq_true h4, of_decide_eq_true h5, fun x hx => ?_, fun y hy z => ?_⟩
  · cases e : sc.kind <;> first | rfl | (rw [e] at h1; cases h1)
  · have := List.all_eq_true.mp h6 x hx
    unfold locB at this
    split at this
    · exact .inl (by assumption)
    · exact .inr (by assumption)
    · cases this
  · have := List.all_eq_true.mp h7 y hy
    rw [z] at this
    cases this
def fuel : Nat := 1000
def krOf (dep : List Nat) (np ns : Nat) : List Kd := (List.range (ns - np)).map fun j => .own (dep.getD (np + j) 0)
/-- the def's text is the IR's -/
def ckDf (G : Glb) (tbl : List Fn) (f : Nat) (df : Df) : Bool := match tbl[f]?, G.sig[f]? with
  | some d, some s => decide (G.fns[f]? = some df.name) && d.ns == df.N.length && d.np == s.pk.length && df.ps.length == s.pk.length && decide (d.np ≤ d.ns) && d.io == ioB s.pk && pkOk s.pk && scB df.N df.ps (defScope df.st) &&
      (ckBl G df.N fuel (defScope df.st) df.dep s.rk fuel (s.pk ++ krOf df.dep d.np d.ns) none (defBody df.st) d.body).isSome
  | _, _ => false
/-- what the head tells of a def -/
structure DfF (K : PySem.W.Frag) (mg : Str → Option Value) (G : Glb) (f : Nat) (df : Df) (fa : Addr) (fd : FuncData) : Prop where
  fn : L2.Fun K df.name df.name df.st fa fd
  at_ : mg df.name = some (.ref fa)
  bd : L2.Binds K fd df.ps []
  kw : ∀ ks a perm, (f, ks, a, perm) ∈ G.kw → KB K fd df.ps ks perm a ks.length

theorem table {P : Program} {w : World} {K : PySem.W.Frag} {mg : Str → Option Value} {base : Heap} {G : Glb} {tbl : List Fn} {dfs : List Df} (hl : G.fns.length = dfs.length) (ck : ∀ (f : Nat) (df : Df), dfs[f]? = some df → ckDf G tbl f df = true)
    (facts : ∀ (f : Nat) (df : Df), dfs[f]? = some df → ∃ fa fd, DfF K mg G f df fa fd) (blt : ∀ x ∈ G.blt, mg x = none) :
    ∀ (n f : Nat) (df : Df) (fa : Addr) (fd : FuncData), dfs[f]? = some df → DfF K mg G f df fa fd → FnG P w K mg base n fa fd df.ps (spF K tbl G.sig n f) := by
  have parts : ∀ (f : Nat) (df : Df), dfs[f]? = some df → ∃ d s kd', tbl[f]? = some d ∧ G.sig[f]? = some s ∧ G.fns[f]? = some df.name ∧ d.ns = df.N.length ∧ d.np = s.pk.length ∧ df.ps.length = s.pk.length ∧ d.np ≤ d.ns ∧ d.io = ioB s.pk ∧ pkOk s.pk = true ∧ FnScope df.N df.ps (defScope df.st) ∧
      ckBl G df.N fuel (defScope df.st) df.dep s.rk fuel (s.pk ++ krOf df.dep d.np d.ns) none (defBody df.st) d.body = some kd' := fun f df hf => by
    have h := ck f df hf
    unfold ckDf at h
    split at h
    · rename_i d s h1 h2
      simp only [Bool.and_eq_true] at h
      obtain ⟨⟨⟨⟨⟨⟨⟨⟨q1, q2⟩, q3⟩, q4⟩, q5⟩, q6⟩, q7⟩, q8⟩, q9⟩ := h
      obtain ⟨kd', q9⟩ := Option.isSome_iff_exists.mp q9
      exact ⟨d, s, kd', h1, h2, of_decide_eq_true q1, by simpa using q2, by simpa using q3, by simpa using q4, of_decide_eq_true q5, by simpa using q6, q7, scB_of q8, q9⟩
    · cases h
  intro n
  induction n with
  | zero =>
    intro f df fa fd hf D
    obtain ⟨d, s, kd', p1, p2, p3, p4, p5, p6, p7, p8, p9, p10, p11⟩ := parts f df hf
    refine ⟨fun {vs H Q E} h => ?_, fun B up z H ar us vs Q hg hr e0 hb rv h => ?_⟩
    · obtain ⟨s', F, G', ts, r, out, e1, l1, _⟩ := h
      rw [p2] at e1
      cases e1
      rw [l1, p6]
    · obtain ⟨s', F, G', ts, r, out, _, _, _, _, ev, _⟩ := h
      have ev : (none : Option (T × Option T)) = some (r, out) := ev
      cases ev
  | succ n ih =>
    intro f df fa fd hf D
    obtain ⟨d, s, kd', p1, p2, p3, p4, p5, p6, p7, p8, p9, p10, p11⟩ := parts f df hf
    refine fnG_of D.fn p10 (fun {vs H Q E} h => ?_) fun cd B up z H vs Q hg hr h => ?_
    · obtain ⟨s', F, G', ts, r, out, e1, l1, _⟩ := h
      rw [p2] at e1
      cases e1
      rw [l1, p6]
    · refine body_ok (X := (cxOf CX0 P w K mg base df.N df.name (defScope df.st) fa cd B up z H E0).nox) (N := df.N) (ps := df.ps) (io := io0) (kd' := kd') p1 p2 p4 p5 p6 p7 p8 p9 (kr := krOf df.dep d.np d.ns) (by unfold krOf; simp) (fun k hk => ?_) (fun A hK hC hio => ?_) h
      · unfold krOf at hk
        obtain ⟨j, _, rfl⟩ := List.mem_map.mp hk
        rfl
      · have O : XOk G tbl A n df.N (defScope df.st) (cxOf CX0 P w K mg base df.N df.name (defScope df.st) fa cd B up z H E0).nox := {
          hK := hK
          hC := hC
          hio := hio
          hN := rfl
          nd := p10.nd
          calm := rfl
          gd := hg
          room := hr
          po := PassesOwn.never
          kind := p10.kind
          vis := fun x hx => by
            unfold visB at hx
            split at hx
            · exact .inl (by assumption)
            · exact .inr (.inl (by assumption))
            · exact .inr (.inr (by assumption))
            · cases hx
          loc := fun x hx => by
            unfold locB at hx
            split at hx
            · exact ⟨.inl (by assumption), .inl rfl⟩
            · exact ⟨.inr (by assumption), .inl rfl⟩
            · cases hx
          lcl := fun x hx => by
            unfold lclB at hx
            split at hx
            · assumption
            · cases hx
          gl := fun x hx => by
            unfold glB at hx
            split at hx
            · assumption
            · cases hx
          clo := fun x hx => hx
          fns := fun g x hx => by
            have hgl : g < dfs.length := by rw [← hl]; exact lt_of_get hx
            obtain ⟨fa', fd', D'⟩ := facts g _ (List.getElem?_eq_getElem hgl)
            obtain ⟨_, _, _, _, _, r3, _⟩ := parts g _ (List.getElem?_eq_getElem hgl)
            rw [hx] at r3
            cases r3
            exact ⟨fa', fd', _, ih g _ fa' fd' (List.getElem?_eq_getElem hgl) D', D'.at_, D'.fn.kp, D'.bd, D'.kw⟩
          blt := blt }
        exact (sndS_all O fuel).b p11
/-- the law's promise by the evaluator -/
theorem law_sp {K : PySem.W.Frag} {tbl : List Fn} {sig : List Sig} {n f rk : Nat} (hs : sig[f]? = some ⟨[.scr], rk⟩) (law : ∀ ns : List Int, ns.length ≤ 63 → ∃ out, callN tbl n f [.lst (ns.map T.int)] = some (.bl true, out)) {H : Hp} {a : Addr} {ns : List Int} (hl : ns.length ≤ 63) (hS : SqL K H a (ns.map V.int)) :
    spF K tbl sig n f [.ref a] H (fun v _ => v = .bl true) E0 := by
  obtain ⟨out, ev⟩ := law ns hl
  have L : Lay K H (fun _ => none) H [⟨.scr, .lst (ns.map T.int), .ref a⟩] := Lay.plain (fun a o e => by cases e) (Same.refl H) fun e he => by
    have : e = ⟨.scr, .lst (ns.map T.int), .ref a⟩ := by simpa using he
    subst this
    exact ⟨⟨rfl, a, ns, rfl, rfl, hS⟩, fun _ z => by cases z⟩
  refine ⟨_, _, _, _, _, _, hs, rfl, rfl, L, ev, fun v F' H' hE _ _ => ?_⟩
  have L2 := hE.plain (s := ⟨[.scr], rk⟩) rfl
  obtain ⟨al, r⟩ := L2.ent (j := 0) rfl
  have r : OwnR K F' H' rk (.bl true) v al := r
  exact (r.same_inv rfl).2.blv
/-- of every one of a list -/
def AllFrom {α : Type} (P : Nat → α → Prop) : Nat → List α → Prop
  | _, [] => True
  | j, d :: r => P j d ∧ AllFrom P (j + 1) r
theorem allFrom_at {α : Type} {P : Nat → α → Prop} : ∀ {l : List α} {j : Nat}, AllFrom P j l → ∀ (f : Nat) (d : α), l[f]? = some d → P (j + f) d
  | [], _, _, _, _, h => by cases h
  | _ :: _, _, a, 0, _, h => by cases h; exact a.1
  | _ :: r, j, a, f + 1, d, h => by
    have z := allFrom_at a.2 f d h
    have e : j + 1 + f = j + (f + 1) := by omega
    rw [← e]
    exact z
theorem allFrom_get {α : Type} {P : Nat → α → Prop} {l : List α} (h : AllFrom P 0 l) (f : Nat) (d : α) (e : l[f]? = some d) : P f d := by
  have z := allFrom_at h f d e
  rw [Nat.zero_add] at z
  exact z
end Pv
end

section
set_option Elab.async false
set_option linter.all false
set_option maxRecDepth 100000
set_option maxHeartbeats 2000000
/-! PvRun: what the evaluator answers, by weakest preconditions: one row per kind of node. -/
namespace Pv
open L2 (ixN)

def wp {α : Type} (o : Option α) (Q : α → Prop) : Prop := ∃ a, o = some a ∧ Q a
theorem wp_some {α : Type} {a : α} {Q : α → Prop} : wp (some a) Q ↔ Q a := ⟨fun ⟨_, e, q⟩ => by cases e; exact q, fun q => ⟨a, rfl, q⟩⟩
theorem wp_none {α : Type} {Q : α → Prop} : wp (none : Option α) Q ↔ False := ⟨(fun ⟨_, e, _⟩ => by cases e), False.elim⟩
theorem wp_bind {α β : Type} {o : Option α} {f : α → Option β} {Q : β → Prop} : wp (o.bind f) Q ↔ wp o fun a => wp (f a) Q := by
  cases o with
  | none => simp [wp]
  | some a => simp [wp]
theorem wp_bind' {α β : Type} {o : Option α} {f : α → Option β} {Q : β → Prop} : wp (o >>= f) Q ↔ wp o fun a => wp (f a) Q := wp_bind
theorem wp_map {α β : Type} {o : Option α} {f : α → β} {Q : β → Prop} : wp (o.map f) Q ↔ wp o fun a => Q (f a) := by
  cases o with
  | none => simp [wp]
  | some a => simp [wp]
theorem wp_ite {α : Type} {c : Prop} [Decidable c] {a b : Option α} {Q : α → Prop} : wp (if c then a else b) Q ↔ (c → wp a Q) ∧ (¬ c → wp b Q) := by
  by_cases h : c
  · rw [if_pos h]; exact ⟨fun x => ⟨fun _ => x, fun z => absurd h z⟩, fun x => x.1 h⟩
  · rw [if_neg h]; exact ⟨fun x => ⟨fun z => absurd z h, fun _ => x⟩, fun x => x.2 h⟩
theorem wp_must {α : Type} {c : Prop} [Decidable c] {a : Option α} {Q : α → Prop} : wp (if c then a else none) Q ↔ c ∧ wp a Q := by
  rw [wp_ite]
  exact ⟨fun ⟨x, y⟩ => by
    by_cases h : c
    · exact ⟨h, x h⟩
    · exact (wp_none.mp (y h)).elim, fun ⟨x, y⟩ => ⟨fun _ => y, fun z => absurd x z⟩⟩
theorem wp.imp {α : Type} {o : Option α} {P Q : α → Prop} (h : wp o P) (f : ∀ a, P a → Q a) : wp o Q := by
  obtain ⟨a, e, p⟩ := h
  exact ⟨a, e, f a p⟩

section
variable {C : Cal} {env : Env}
def wE (C : Cal) (x : Ir) (env : Env) (Q : T → Env → Prop) : Prop := wp (evE C x env) fun r => Q r.1 r.2
def wEs (C : Cal) (x : List Ir) (env : Env) (Q : List T → Env → Prop) : Prop := wp (evEs C x env) fun r => Q r.1 r.2
def wO (C : Cal) (x : Option Ir) (env : Env) (Q : Option Int → Env → Prop) : Prop := wp (evO C x env) fun r => Q r.1 r.2
def wI (C : Cal) (x : Wk) (env : Env) (Q : List T → Env → Prop) : Prop := wp (evI C x env) fun r => Q r.1 r.2
def wC (C : Cal) (x : List Ir) (env : Env) (Q : Bool → Env → Prop) : Prop := wp (evC C x env) fun r => Q r.1 r.2
def wK (C : Cal) (f : Nat) (ts : List T) (Q : T → Option T → Prop) : Prop := wp (C f ts) fun r => Q r.1 r.2
def wS (C : Cal) (s : Stm) (env : Env) (Q : Fl → Env → Prop) : Prop := wp (evS C s env) fun r => Q r.1 r.2
def wB (C : Cal) (b : List Stm) (env : Env) (Q : Fl → Env → Prop) : Prop := wp (evB C b env) fun r => Q r.1 r.2

variable {Q : T → Env → Prop}
theorem wE_nm {i : Nat} : wE C (.nm i) env Q ↔ wp (getV env i) fun t => Q t env := by simp only [wE, evE, wp_map]
theorem wE_con {t : T} : wE C (.con t) env Q ↔ Q t env := by simp only [wE, evE, wp_some]
theorem wE_bin {o : Op} {a b : Ir} : wE C (.bin o a b) env Q ↔ wE C a env fun x env => wE C b env fun y env => wp (opT o x y) fun z => Q z env := by simp only [wE, evE, wp_bind', wp_some]
theorem wE_neg {a : Ir} : wE C (.neg a) env Q ↔ wE C a env fun x env => wp (negT x) fun z => Q z env := by simp only [wE, evE, wp_bind', wp_some]
theorem wE_cmp {o : Cm} {a b : Ir} : wE C (.cmp o a b) env Q ↔ wE C a env fun x env => wE C b env fun y env => wp (cmpT o x y) fun z => Q (.bl z) env := by simp only [wE, evE, wp_bind', wp_some]
theorem wE_and {a b : Ir} : wE C (.and a b) env Q ↔ wE C a env fun x env => (truth x = true → wE C b env Q) ∧ (¬ truth x = true → Q x env) := by simp only [wE, evE, wp_bind', wp_ite, wp_some]
theorem wE_or {a b : Ir} : wE C (.or a b) env Q ↔ wE C a env fun x env => (truth x = true → Q x env) ∧ (¬ truth x = true → wE C b env Q) := by simp only [wE, evE, wp_bind', wp_ite, wp_some]
theorem wE_not {a : Ir} : wE C (.not a) env Q ↔ wE C a env fun x env => Q (.bl (!truth x)) env := by simp only [wE, evE, wp_bind', wp_some]
theorem wE_ite {c a b : Ir} : wE C (.ite c a b) env Q ↔ wE C c env fun x env => (truth x = true → wE C a env Q) ∧ (¬ truth x = true → wE C b env Q) := by simp only [wE, evE, wp_bind', wp_ite]
theorem wE_tup {es : List Ir} : wE C (.tup es) env Q ↔ wEs C es env fun xs env => Q (.tup xs) env := by simp only [wE, wEs, evE, wp_bind', wp_some]
theorem wE_lst {es : List Ir} : wE C (.lst es) env Q ↔ wEs C es env fun xs env => Q (.lst xs) env := by simp only [wE, wEs, evE, wp_bind', wp_some]
theorem wE_ix {a b : Ir} : wE C (.ix a b) env Q ↔ wE C a env fun x env => wE C b env fun y env => wp (ixT x y) fun z => Q z env := by simp only [wE, evE, wp_bind', wp_some]
theorem wE_sl {a : Ir} {lo hi : Option Ir} : wE C (.sl a lo hi) env Q ↔ wE C a env fun x env => wO C lo env fun a env => wO C hi env fun b env => wp (slT x a b) fun z => Q z env := by simp only [wE, wO, evE, wp_bind', wp_some]
theorem wE_rev {a : Ir} : wE C (.rev a) env Q ↔ wE C a env fun x env => wp (revT x) fun z => Q z env := by simp only [wE, evE, wp_bind', wp_some]
theorem wE_call {f : Nat} {as : List Ir} : wE C (.call f false as) env Q ↔ wEs C as env fun xs env => wK C f xs fun r _ => Q r env := by simp only [wE, wEs, wK, evE, wp_bind', wp_some]
theorem wE_callio {f i : Nat} {as : List Ir} : wE C (.call f true (.nm i :: as)) env Q ↔ wp (getV env i) fun _ => wEs C as env fun xs env => wp (getV env i) fun t => wK C f (t :: xs) fun r out => wp out fun t' => Q r (env.set i (some t')) := by simp only [wE, wEs, wK, evE, wp_bind', wp_some]
theorem wE_callk {f : Nat} {as : List Ir} {perm : List Nat} : wE C (.callk f as perm) env Q ↔ wEs C as env fun xs env => wK C f (perm.map fun k => xs.getD k .non) fun r _ => Q r env := by simp only [wE, wEs, wK, evE, wp_bind', wp_some]
theorem wE_bi {b : Bi} {as : List Ir} : wE C (.bi b as) env Q ↔ wEs C as env fun xs env => wp (biT b xs) fun z => Q z env := by simp only [wE, wEs, evE, wp_bind', wp_some]
theorem wE_lrg {a : Ir} : wE C (.lrg a) env Q ↔ wE C a env fun x env => wp (intOf x) fun n => (decide (0 ≤ n) && decide (n ≤ 1000000)) = true ∧ Q (.lst ((List.range n.toNat).map fun (k : Nat) => T.int (0 + (k : Int)))) env := by simp only [wE, evE, wp_bind', wp_must, wp_some]
theorem wE_pop {i : Nat} {a : Option Ir} : wE C (.pop i none a) env Q ↔ wp (getV env i) fun t => wp (listOf t) fun _ => wO C a env fun k env => wp (getV env i) fun t => wp (listOf t) fun l => wp (popL l (k.getD (-1))) fun r => Q r.1 (env.set i (some (.lst r.2))) := by simp only [wE, wO, evE, wp_bind', wp_some]
theorem wE_popp {i : Nat} {p : Ir} {a : Option Ir} : wE C (.pop i (some p) a) env Q ↔ wp (getV env i) fun t => wp (listOf t) fun _ => wE C p env fun q env => wO C a env fun k env => wp (getV env i) fun t => wp (listOf t) fun l => wp (intOf q) fun q => wp (ixN l.length q) fun j => wp (l[j]?) fun u => wp (listOf u) fun m => wp (popL m (k.getD (-1))) fun r => Q r.1 (env.set i (some (.lst (l.set j (.lst r.2))))) := by simp only [wE, wO, evE, wp_bind', wp_some]
theorem wE_app {i : Nat} {a : Ir} : wE C (.app i none a) env Q ↔ wp (getV env i) fun t => wp (listOf t) fun _ => wE C a env fun x env => wp (getV env i) fun t => wp (listOf t) fun l => okLen (l.length + 1) = true ∧ Q .non (env.set i (some (.lst (l ++ [x])))) := by simp only [wE, evE, wp_bind', wp_must, wp_some]
theorem wE_appp {i : Nat} {p a : Ir} : wE C (.app i (some p) a) env Q ↔ wp (getV env i) fun t => wp (listOf t) fun _ => wE C p env fun q env => wE C a env fun x env => wp (getV env i) fun t => wp (listOf t) fun l => wp (intOf q) fun q => wp (ixN l.length q) fun j => wp (l[j]?) fun u => wp (listOf u) fun m => okLen (m.length + 1) = true ∧ Q .non (env.set i (some (.lst (l.set j (.lst (m ++ [x])))))) := by simp only [wE, evE, wp_bind', wp_must, wp_some]
theorem wE_rem {i : Nat} {a : Ir} : wE C (.rem i a) env Q ↔ wp (getV env i) fun t => wp (listOf t) fun _ => wE C a env fun x env => wp (getV env i) fun t => wp (listOf t) fun l => wp (intOf x) fun k => wp (intsOf l) fun ns => wp (posI k ns) fun j => Q .non (env.set i (some (.lst ((ns.eraseIdx j).map T.int)))) := by simp only [wE, evE, wp_bind', wp_some]
theorem wE_ixs {i : Nat} {k : Int} : wE C (.ixs i k) env Q ↔ wp (getV env i) fun t => wp (listOf t) fun l => wp (ixN l.length k) fun j => wp (l[j]?) fun u => u.mutable = false ∧ Q u env := by
  simp only [wE, evE, wp_bind', wp_ite, wp_none, wp_some]
  constructor
  all_goals
    refine fun h => wp.imp h fun t h => wp.imp h fun l h => wp.imp h fun j h => wp.imp h fun u h => ?_
    cases e : u.mutable <;> simp_all
theorem wE_dne {i : Nat} {k : Int} : wE C (.dne i k) env Q ↔ wp (getV env i) fun t => wp (listOf t) fun l => wp (ixN l.length k) fun j => wp (l[j]?) fun u => wp (listOf u) fun m => Ts.pl m = true ∧ Q (.bl (!m.isEmpty)) env := by simp only [wE, evE, wp_bind', wp_must, wp_some]
theorem wEs_nil {Q : List T → Env → Prop} : wEs C [] env Q ↔ Q [] env := by simp only [wEs, evEs, wp_some]
theorem wEs_cons {e : Ir} {es : List Ir} {Q : List T → Env → Prop} : wEs C (e :: es) env Q ↔ wE C e env fun x env => wEs C es env fun xs env => Q (x :: xs) env := by simp only [wE, wEs, evEs, wp_bind', wp_some]
theorem wO_none {Q : Option Int → Env → Prop} : wO C none env Q ↔ Q none env := by simp only [wO, evO, wp_some]
theorem wO_some {e : Ir} {Q : Option Int → Env → Prop} : wO C (some e) env Q ↔ wE C e env fun x env => wp (intOf x) fun i => Q (some i) env := by
  simp only [wO, wE, evO, wp_bind']
  constructor <;> (refine fun h => wp.imp h fun x h => ?_) <;> (obtain ⟨x, env⟩ := x; cases x <;> simp_all [intOf, wp])
theorem wI_ex {e : Ir} {Q : List T → Env → Prop} : wI C (.ex e) env Q ↔ wE C e env fun x env => wp (iterT x) fun l => Q l env := by simp only [wI, wE, evI, wp_bind', wp_some]
theorem wI_enum {e : Ir} {Q : List T → Env → Prop} : wI C (.enum e) env Q ↔ wE C e env fun x env => wp (listOf x) fun l => Q (l.mapIdx fun k t => .tup [.int (k : Int), t]) env := by simp only [wI, wE, evI, wp_bind', wp_some]
theorem wI_range {e : Ir} {Q : List T → Env → Prop} : wI C (.range e) env Q ↔ wE C e env fun x env => wp (intOf x) fun n => (decide (-1000000 ≤ n) && decide (n ≤ 1000000)) = true ∧ Q ((List.range n.toNat).map fun (k : Nat) => T.int (0 + (k : Int))) env := by
  simp only [wI, wE, evI, wp_bind']
  constructor <;> (refine fun h => wp.imp h fun x h => ?_) <;> obtain ⟨x, env⟩ := x <;> cases x <;> simp only [intOf, wp_some, wp_none, wp_must] at h ⊢ <;> exact h
theorem wC_nil {Q : Bool → Env → Prop} : wC C [] env Q ↔ Q true env := by simp only [wC, evC, wp_some]
theorem wC_cons {e : Ir} {es : List Ir} {Q : Bool → Env → Prop} : wC C (e :: es) env Q ↔ wE C e env fun x env => (truth x = true → wC C es env Q) ∧ (¬ truth x = true → Q false env) := by simp only [wE, wC, evC, wp_bind', wp_ite, wp_some]

variable {R : Fl → Env → Prop}
theorem wS_asg {p : Pat} {e : Ir} : wS C (.asg p e) env R ↔ wE C e env fun x env => wp (bindP p x env) fun env => R .nx env := by simp only [wE, wS, evS, wp_bind', wp_some]
theorem wS_par {l : List Nat} {es : List Ir} : wS C (.par l es) env R ↔ wEs C es env fun xs env => wp (setAll l xs env) fun env => R .nx env := by simp only [wEs, wS, evS, wp_bind', wp_some]
theorem wS_setix {i : Nat} {k e : Ir} : wS C (.setix i k e) env R ↔ wE C e env fun x env => wp (getV env i) fun t => wp (listOf t) fun _ => wE C k env fun q env => wp (getV env i) fun t => wp (listOf t) fun l => wp (intOf q) fun q => wp (ixN l.length q) fun j => R .nx (env.set i (some (.lst (l.set j x)))) := by simp only [wE, wS, evS, wp_bind', wp_some]
theorem wS_aug {i : Nat} {o : Op} {e : Ir} : wS C (.aug i o e) env R ↔ wp (getV env i) fun t => wp (intOf t) fun m => wE C e env fun x env => wp (intOf x) fun n => wp (opT o (.int m) (.int n)) fun z => R .nx (env.set i (some z)) := by simp only [wE, wS, evS, wp_bind', wp_some]
theorem wS_expr {e : Ir} : wS C (.expr e) env R ↔ wE C e env fun _ env => R .nx env := by simp only [wE, wS, evS, wp_bind', wp_some]
theorem wS_ret {e : Ir} : wS C (.ret e) env R ↔ wE C e env fun x env => R (.ret x) env := by simp only [wE, wS, evS, wp_bind', wp_some]
theorem wS_ite {c : Ir} {a b : List Stm} : wS C (.ite c a b) env R ↔ wE C c env fun x env => (truth x = true → wB C a env R) ∧ (¬ truth x = true → wB C b env R) := by simp only [wE, wB, wS, evS, wp_bind', wp_ite]
theorem wS_frz {i : Nat} : wS C (.frz i) env R ↔ R .nx env := by simp only [wS, evS, wp_some]
theorem wB_nil : wB C [] env R ↔ R .nx env := by simp only [wB, evB, wp_some]
theorem wB_cons {s : Stm} {b : List Stm} : wB C (s :: b) env R ↔ wS C s env fun f env => (f = .nx → wB C b env R) ∧ (f ≠ .nx → R f env) := by
  simp only [wS, wB, evB, wp_bind']
  constructor <;> (refine fun h => wp.imp h fun x h => ?_) <;> (obtain ⟨f, env⟩ := x; cases f <;> simp_all [wp_some])
end
end Pv
end

section
set_option Elab.async false
set_option linter.all false
set_option maxRecDepth 100000
set_option maxHeartbeats 2000000
/-! PvRun2: comprehensions, for, while, calls: by what stays true. -/
namespace Pv
/-- the same but for the names vs -/
def Ag (vs : List Nat) (e1 e2 : Env) : Prop := e1.length = e2.length ∧ ∀ k, k ∉ vs → e1[k]? = e2[k]?
theorem Ag.refl {vs : List Nat} {e : Env} : Ag vs e e := ⟨rfl, fun _ _ => rfl⟩
theorem Ag.trans {vs : List Nat} {a b c : Env} (h : Ag vs a b) (k : Ag vs b c) : Ag vs a c := ⟨h.1.trans k.1, fun i hi => (h.2 i hi).trans (k.2 i hi)⟩
theorem Ag.set {vs : List Nat} {a b : Env} {i : Nat} {t : Option T} (h : Ag vs a b) (hi : i ∈ vs) : Ag vs a (b.set i t) := ⟨by rw [List.length_set]; exact h.1, fun k hk => by
  have : i ≠ k := fun z => hk (z ▸ hi)
  rw [List.getElem?_set_ne this]
  exact h.2 k hk⟩
theorem Ag.wipe {vs : List Nat} {a b : Env} (h : Ag vs a b) : ∀ {l : List Nat}, (∀ i ∈ l, i ∈ vs) → Ag vs a (wipeE l b)
  | [], _ => h
  | i :: l, hl => (Ag.wipe h fun j hj => hl j (List.mem_cons_of_mem _ hj)).set (hl i List.mem_cons_self)
theorem restore_ag {old : Env} : ∀ {l : List Nat} {vs : List Nat} {e : Env}, Ag (l ++ vs) old e → Ag vs old (restore old l e)
  | [], _, _, h => h
  | i :: l, vs, e, h => by
    have h1 : Ag (i :: vs) old (restore old l e) := restore_ag (l := l) ⟨h.1, fun k hk => h.2 k fun z => hk (by
      rcases List.mem_append.mp z with z | z
      · rcases List.mem_cons.mp z with z | z
        · exact List.mem_append.mpr (.inr (List.mem_cons.mpr (.inl z)))
        · exact List.mem_append.mpr (.inl z)
      · exact List.mem_append.mpr (.inr (List.mem_cons.mpr (.inr z))))⟩
    refine ⟨?_, fun k hk => ?_⟩
    · show _ = ((restore old l e).set i _).length
      rw [List.length_set]
      exact h1.1
    · show _ = ((restore old l e).set i (old[i]?).join)[k]?
      by_cases e1 : i = k
      · subst e1
        rw [List.getElem?_set_self']
        by_cases lt : i < old.length
        · rw [List.getElem?_eq_getElem lt, List.getElem?_eq_getElem (h1.1 ▸ lt)]
          rfl
        · rw [List.getElem?_eq_none (Nat.le_of_not_lt lt), List.getElem?_eq_none (h1.1 ▸ Nat.le_of_not_lt lt)]
          rfl
      · rw [List.getElem?_set_ne e1]
        exact h1.2 k fun z => by
          rcases List.mem_cons.mp z with z | z
          · exact e1 z.symm
          · exact hk z
theorem Ag.nil {a b : Env} (h : Ag [] a b) : b = a := (List.ext_getElem? fun k => h.2 k (by simp)).symm
theorem restore_eq {old e : Env} {vs : List Nat} (h : Ag vs old e) : restore old vs (wipeE vs e) = old :=
  (restore_ag (l := vs) (vs := []) (by rw [List.append_nil]; exact h.wipe fun _ hi => hi)).nil

/-- a clause's walk -/
theorem walk_inv {vs : List Nat} {p : Pat} {c : Env → Option (Bool × Env)} {f : Env → Option (List T × Env)} (I : List T → List T → Env → Prop)
    (step : ∀ t l xs e, I (t :: l) xs e → wp (bindP p t (wipeE vs e)) fun e1 => wp (c e1) fun r => (r.1 = true → wp (f r.2) fun q => I l (xs ++ q.1) q.2) ∧ (r.1 = false → I l xs r.2)) :
    ∀ l xs e, I l xs e → wp (walkC vs p c f l e) fun r => I [] (xs ++ r.1) r.2
  | [], xs, e, h => ⟨([], e), rfl, by simpa using h⟩
  | t :: l, xs, e, h => by
    obtain ⟨e1, b1, ⟨b, e2⟩, b2, s1, s2⟩ := step t l xs e h
    cases b with
    | true =>
      obtain ⟨⟨ys, e3⟩, b3, h3⟩ := s1 rfl
      obtain ⟨⟨zs, e4⟩, b4, h4⟩ := walk_inv I step l (xs ++ ys) e3 h3
      refine ⟨(ys ++ zs, e4), ?_, ?_⟩
      · have b2 : c e1 = some (true, e2) := b2
        have b3 : f e2 = some (ys, e3) := b3
        have b4 : walkC vs p c f l e3 = some (zs, e4) := b4
        simp [walkC, b1, b2, b3, b4]
      · have h4 : I [] (xs ++ ys ++ zs) e4 := h4
        show I [] (xs ++ (ys ++ zs)) e4
        rw [← List.append_assoc]
        exact h4
    | false =>
      obtain ⟨⟨zs, e4⟩, b4, h4⟩ := walk_inv I step l xs e2 (s2 rfl)
      refine ⟨(zs, e4), ?_, h4⟩
      have b2 : c e1 = some (false, e2) := b2
      have b4 : walkC vs p c f l e2 = some (zs, e4) := b4
      simp [walkC, b1, b2, b4]

section
variable {C : Cal} {env : Env} {Q : T → Env → Prop}
/-- a comprehension of one clause -/
theorem wE_lc {p : Pat} {it : Wk} {cs : List Ir} {x : Ir} (h : wI C it env fun l env1 => ∃ I : List T → List T → Env → Prop, I l [] env1 ∧
      (∀ t l xs e, I (t :: l) xs e → wp (bindP p t (wipeE p.slots e)) fun e1 => wC C cs e1 fun b e2 => (b = true → wE C x e2 fun v e3 => I l (xs ++ [v]) e3) ∧ (b = false → I l xs e2)) ∧
      ∀ xs e2, I [] xs e2 → okLen xs.length = true ∧ Q (.lst xs) (restore env1 p.slots (wipeE p.slots e2))) : wE C (.lc p it cs [] x) env Q := by
  obtain ⟨⟨l, env1⟩, b1, I, i0, st, en⟩ := h
  obtain ⟨⟨xs, e2⟩, b2, h2⟩ := walk_inv (vs := p.slots ++ Cl.slots []) (p := p) (c := fun env => evC C cs env) (f := fun env => evG C [] (fun env => evE C x env) env) I (fun t l xs e h => by
    have s := st t l xs e h
    have e0 : p.slots ++ Cl.slots [] = p.slots := List.append_nil _
    rw [e0]
    refine wp.imp s fun e1 s => wp.imp s fun r s => ⟨fun z => ?_, s.2⟩
    obtain ⟨⟨v, e3⟩, b3, h3⟩ := s.1 z
    exact ⟨([v], e3), by
      have b3 : evE C x r.2 = some (v, e3) := b3
      show evG C [] (fun env => evE C x env) r.2 = _
      simp [evG, b3], h3⟩) l [] env1 i0
  have h2 : I [] xs e2 := by simpa using h2
  obtain ⟨ok, q⟩ := en xs e2 h2
  have e0 : p.slots ++ Cl.slots [] = p.slots := List.append_nil _
  refine ⟨(.lst xs, restore env1 p.slots (wipeE p.slots e2)), ?_, q⟩
  have b1 : evI C it env = some (l, env1) := b1
  have b2 : walkC (p.slots ++ Cl.slots []) p (fun env => evC C cs env) (fun env => evG C [] (fun env => evE C x env) env) l env1 = some (xs, e2) := b2
  rw [e0] at b2
  simp [evE, b1, e0, b2, ok]
/-- a comprehension that changes nothing else -/
theorem wE_lcp {p : Pat} {it : Wk} {cs : List Ir} {x : Ir} (h : wI C it env fun l env1 => ∃ (b : T → Bool) (g : T → T),
      (∀ t ∈ l, ∀ e, Ag p.slots env1 e → wp (bindP p t (wipeE p.slots e)) fun e1 => wC C cs e1 fun b' e2 => b' = b t ∧ (b t = true → wE C x e2 fun v e3 => v = g t ∧ Ag p.slots env1 e3) ∧ (b t = false → Ag p.slots env1 e2)) ∧
      okLen l.length = true ∧ Q (.lst ((l.filter b).map g)) env1) : wE C (.lc p it cs [] x) env Q := by
  refine wE_lc (wp.imp h fun ⟨l, env1⟩ h => ?_)
  obtain ⟨b, g, st, ok, q⟩ := h
  refine ⟨fun l' xs e => ∃ done, l = done ++ l' ∧ xs = (done.filter b).map g ∧ Ag p.slots env1 e, ⟨[], rfl, rfl, .refl⟩, fun t l' xs e ⟨done, e1, e2, e3⟩ => ?_, fun xs e2 ⟨done, e1, e2, e3⟩ => ?_⟩
  · refine wp.imp (st t (by rw [e1]; simp) e e3) fun e4 s => wp.imp s fun r ⟨s0, s1, s2⟩ => ⟨fun z => ?_, fun z => ?_⟩
    · have z' : b t = true := by rw [← s0]; exact z
      exact wp.imp (s1 z') fun r ⟨v, a⟩ => ⟨done ++ [t], by rw [e1]; simp, by rw [e2, v]; simp [List.filter_append, z'], a⟩
    · have z' : b t = false := by rw [← s0]; exact z
      exact ⟨done ++ [t], by rw [e1]; simp, by rw [e2]; simp [List.filter_append, z'], s2 z'⟩
  · rw [List.append_nil] at e1
    subst e1 e2
    refine ⟨?_, by rw [restore_eq e3]; exact q⟩
    have ok : decide (l.length ≤ 1000000) = true := ok
    show decide (((l.filter b).map g).length ≤ 1000000) = true
    rw [List.length_map]
    exact decide_eq_true (Nat.le_trans (List.length_filter_le _ _) (of_decide_eq_true ok))

variable {R : Fl → Env → Prop}
theorem for_inv {f : T → Env → Option (Fl × Env)} (I : List T → Env → Prop) (step : ∀ t l e, I (t :: l) e → wp (f t e) fun r => (r.1 = .nx ∨ r.1 = .cont → I l r.2) ∧ (r.1 = .brk → R .nx r.2) ∧ ∀ v, r.1 = .ret v → R (.ret v) r.2) (en : ∀ e, I [] e → R .nx e) :
    ∀ l e, I l e → wp (forL f l e) fun r => R r.1 r.2
  | [], e, h => ⟨(.nx, e), rfl, en e h⟩
  | t :: l, e, h => by
    obtain ⟨⟨r, e1⟩, b1, s1, s2, s3⟩ := step t l e h
    have b1 : f t e = some (r, e1) := b1
    cases r with
    | nx =>
      obtain ⟨q, b2, h2⟩ := for_inv I step en l e1 (s1 (.inl rfl))
      exact ⟨q, by simp [forL, b1, b2], h2⟩
    | cont =>
      obtain ⟨q, b2, h2⟩ := for_inv I step en l e1 (s1 (.inr rfl))
      exact ⟨q, by simp [forL, b1, b2], h2⟩
    | brk => exact ⟨(.nx, e1), by simp [forL, b1], s2 rfl⟩
    | ret v => exact ⟨(.ret v, e1), by simp [forL, b1], s3 v rfl⟩
theorem wS_for {p : Pat} {it : Wk} {b : List Stm} (h : wI C it env fun l env1 => ∃ I : List T → Env → Prop, I l env1 ∧
      (∀ t l e, I (t :: l) e → wp (bindP p t e) fun e1 => wB C b e1 fun r e2 => (r = .nx ∨ r = .cont → I l e2) ∧ (r = .brk → R .nx e2) ∧ ∀ v, r = .ret v → R (.ret v) e2) ∧ ∀ e, I [] e → R .nx e) : wS C (.for_ p it b) env R := by
  obtain ⟨⟨l, env1⟩, b1, I, i0, st, en⟩ := h
  obtain ⟨q, b2, h2⟩ := for_inv (R := R) (f := fun t env => (bindP p t env).bind (evB C b)) I (fun t l e h => by
    obtain ⟨e1, b3, r, b4, s⟩ := st t l e h
    exact ⟨r, by rw [b3]; exact b4, s⟩) en l env1 i0
  exact ⟨q, by
    have b1 : evI C it env = some (l, env1) := b1
    simp [evS, b1, b2], h2⟩
theorem while_inv {c : Env → Option (T × Env)} {b : Env → Option (Fl × Env)} (I : Nat → Env → Prop)
    (step : ∀ m e, I m e → wp (c e) fun r => (truth r.1 = true → wp (b r.2) fun q => (q.1 = .nx ∨ q.1 = .cont → ∃ m', m' < m ∧ I m' q.2) ∧ (q.1 = .brk → R .nx q.2) ∧ ∀ v, q.1 = .ret v → R (.ret v) q.2) ∧ (¬ truth r.1 = true → R .nx r.2)) :
    ∀ n m e, I m e → m < n → wp (whileL c b n e) fun r => R r.1 r.2
  | 0, _, _, _, h => absurd h (Nat.not_lt_zero _)
  | n + 1, m, e, h, hm => by
    obtain ⟨⟨x, e1⟩, b1, s1, s2⟩ := step m e h
    have b1 : c e = some (x, e1) := b1
    by_cases tr : truth x = true
    · obtain ⟨⟨r, e2⟩, b2, t1, t2, t3⟩ := s1 tr
      have b2 : b e1 = some (r, e2) := b2
      cases r with
      | nx =>
        obtain ⟨m', lt, h'⟩ := t1 (.inl rfl)
        obtain ⟨q, b3, h3⟩ := while_inv I step n m' e2 h' (by omega)
        exact ⟨q, by simp [whileL, b1, tr, b2, b3], h3⟩
      | cont =>
        obtain ⟨m', lt, h'⟩ := t1 (.inr rfl)
        obtain ⟨q, b3, h3⟩ := while_inv I step n m' e2 h' (by omega)
        exact ⟨q, by simp [whileL, b1, tr, b2, b3], h3⟩
      | brk => exact ⟨(.nx, e2), by simp [whileL, b1, tr, b2], t2 rfl⟩
      | ret v => exact ⟨(.ret v, e2), by simp [whileL, b1, tr, b2], t3 v rfl⟩
    · exact ⟨(.nx, e1), by simp [whileL, b1, tr], s2 tr⟩
theorem wS_while {c : Ir} {b : List Stm} (I : Nat → Env → Prop) {m : Nat} (i0 : I m env) (hm : m < turns)
    (step : ∀ m e, I m e → wE C c e fun x e1 => (truth x = true → wB C b e1 fun r e2 => (r = .nx ∨ r = .cont → ∃ m', m' < m ∧ I m' e2) ∧ (r = .brk → R .nx e2) ∧ ∀ v, r = .ret v → R (.ret v) e2) ∧ (¬ truth x = true → R .nx e1)) : wS C (.while_ c b) env R := by
  obtain ⟨q, b1, h1⟩ := while_inv (R := R) (c := evE C c) (b := evB C b) I step turns m env i0 hm
  exact ⟨q, by simp [evS, b1], h1⟩
/-- a call -/
theorem wK_fn {tbl : List Fn} {n f : Nat} {ts : List T} {d : Fn} {P : T → Option T → Prop} (hd : tbl[f]? = some d) (hl : ts.length = d.np)
    (h : wB (callN tbl n) d.body (ts.map some ++ List.replicate (d.ns - d.np) none) fun r env => wp (endOf r) fun v => if d.io then wp (getV env 0) fun t => P v (some t) else P v none) : wK (callN tbl (n + 1)) f ts P := by
  obtain ⟨⟨r, env⟩, b1, v, b2, h⟩ := h
  have b1 : evB (callN tbl n) d.body (ts.map some ++ List.replicate (d.ns - d.np) none) = some (r, env) := b1
  have b2 : endOf r = some v := b2
  cases io : d.io with
  | true =>
    rw [io] at h
    obtain ⟨t, b3, p⟩ := h
    have b3 : getV env 0 = some t := b3
    exact ⟨(v, some t), by simp [callN, hd, hl, b1, b2, b3, io], p⟩
  | false =>
    rw [io] at h
    exact ⟨(v, none), by simp [callN, hd, hl, b1, b2, io], h⟩
end
end Pv
end

section
set_option Elab.async false
set_option linter.all false
set_option maxRecDepth 100000
set_option maxHeartbeats 2000000
/-! PvRun3: the operations of plain data, the tactic that runs code. -/
namespace Pv
open L2 (ixN)
theorem getV_zero {x : Option T} {e : Env} : getV (x :: e) 0 = x := by simp [getV]
theorem getV_succ {x : Option T} {e : Env} {n : Nat} : getV (x :: e) (n + 1) = getV e n := by simp [getV]
section
variable {Q : T → Prop} {i j : Int} {a b : List T}
theorem wp_add_int : wp (addT (.int i) (.int j)) Q ↔ Q (.int (i + j)) := wp_some
theorem wp_add_lst : wp (addT (.lst a) (.lst b)) Q ↔ okLen (a.length + b.length) = true ∧ Q (.lst (a ++ b)) := by simp only [addT, wp_must, wp_some]
theorem wp_add_tup : wp (addT (.tup a) (.tup b)) Q ↔ okLen (a.length + b.length) = true ∧ Q (.tup (a ++ b)) := by simp only [addT, wp_must, wp_some]
theorem wp_add_str {a b : List Nat} : wp (addT (.str a) (.str b)) Q ↔ okLen (a.length + b.length) = true ∧ Q (.str (a ++ b)) := by simp only [addT, wp_must, wp_some]
theorem wp_sub_int : wp (subT (.int i) (.int j)) Q ↔ Q (.int (i - j)) := wp_some
theorem wp_mul_int : wp (mulT (.int i) (.int j)) Q ↔ (i.natAbs < bigN ∧ j.natAbs < bigN) ∧ Q (.int (i * j)) := by simp only [mulT, wp_must, wp_some, Bool.and_eq_true, decide_eq_true_eq]
theorem wp_mul_lst : wp (mulT (.lst a) (.int j)) Q ↔ okRep a.length j = true ∧ Q (.lst (repl j.toNat a)) := by simp only [mulT, wp_must, wp_some]
theorem wp_mul_str {a : List Nat} : wp (mulT (.str a) (.int j)) Q ↔ okRep a.length j = true ∧ Q (.str (repl j.toNat a)) := by simp only [mulT, wp_must, wp_some]
theorem wp_fdiv : wp (fdivT (.int i) (.int j)) Q ↔ (0 < j ∧ j.natAbs < divN) ∧ Q (.int (i / j)) := by simp only [fdivT, wp_must, wp_some, Bool.and_eq_true, decide_eq_true_eq]
theorem wp_mod : wp (modT (.int i) (.int j)) Q ↔ 0 < j ∧ Q (.int (i % j)) := by simp only [modT, wp_must, wp_some, decide_eq_true_eq]
theorem wp_pow : wp (powT (.int i) (.int j)) Q ↔ ((0 ≤ j ∧ j ≤ 1000000) ∧ i.natAbs < 1000000000) ∧ Q (.int (i ^ j.toNat)) := by simp only [powT, wp_must, wp_some, Bool.and_eq_true, decide_eq_true_eq]
theorem wp_len_lst : wp (lenT [.lst a]) Q ↔ Q (.int a.length) := wp_some
theorem wp_len_tup : wp (lenT [.tup a]) Q ↔ Q (.int a.length) := wp_some
theorem wp_list_lst : wp (listT [.lst a]) Q ↔ Q (.lst a) := wp_some
theorem wp_list_tup : wp (listT [.tup a]) Q ↔ Q (.lst a) := wp_some
theorem wp_tuple_lst : wp (tupleT [.lst a]) Q ↔ Q (.tup a) := wp_some
theorem wp_tuple_tup : wp (tupleT [.tup a]) Q ↔ Q (.tup a) := wp_some
theorem wp_rev_lst : wp (revT (.lst a)) Q ↔ Q (.lst a.reverse) := wp_some
theorem wp_rev_tup : wp (revT (.tup a)) Q ↔ Q (.tup a.reverse) := wp_some
theorem wp_sl_lst {lo hi : Option Int} : wp (slT (.lst a) lo hi) Q ↔ Q (.lst (cut a lo hi)) := wp_some
theorem wp_sl_tup {lo hi : Option Int} : wp (slT (.tup a) lo hi) Q ↔ Q (.tup (cut a lo hi)) := wp_some
theorem wp_neg : wp (negT (.int i)) Q ↔ Q (.int (-i)) := wp_some
theorem wp_listOf {P : List T → Prop} : wp (listOf (.lst a)) P ↔ P a := wp_some
theorem wp_intOf {P : Int → Prop} : wp (intOf (.int i)) P ↔ P i := wp_some
theorem wp_iter_lst {P : List T → Prop} : wp (iterT (.lst a)) P ↔ P a := wp_some
theorem wp_iter_tup {P : List T → Prop} : wp (iterT (.tup a)) P ↔ P a := wp_some
theorem wp_lt_int {P : Bool → Prop} : wp (ltS (.int i) (.int j)) P ↔ P (decide (i < j)) := wp_some
theorem wp_gt_int {P : Bool → Prop} : wp (gtS (.int i) (.int j)) P ↔ P (decide (j < i)) := wp_some
theorem wp_le_int {P : Bool → Prop} : wp (leS (.int i) (.int j)) P ↔ P (decide (i ≤ j)) := wp_some
theorem wp_ge_int {P : Bool → Prop} : wp (geS (.int i) (.int j)) P ↔ P (decide (j ≤ i)) := wp_some
theorem bind_nm {t : T} {e : Env} {P : Env → Prop} {i : Nat} : wp (bindP (.nm i) t e) P ↔ P (e.set i (some t)) := wp_some
theorem bind_tup {l : List Nat} {ts : List T} {e : Env} {P : Env → Prop} : wp (bindP (.tup l) (.tup ts) e) P ↔ wp (setAll l ts e) P := Iff.rfl
theorem set_nil {e : Env} {P : Env → Prop} : wp (setAll [] [] e) P ↔ P e := wp_some
theorem set_cons {i : Nat} {l : List Nat} {t : T} {ts : List T} {e : Env} {P : Env → Prop} : wp (setAll (i :: l) (t :: ts) e) P ↔ wp (setAll l ts (e.set i (some t))) P := Iff.rfl
end
theorem ixN_nn {n k : Nat} (h : k < n) : ixN n (k : Int) = some k := by
  unfold ixN
  rw [if_pos (Int.natCast_nonneg k), if_pos (Int.ofNat_lt.mpr h), Int.toNat_natCast]
theorem ixN_m1 {n : Nat} (h : 0 < n) : ixN n (-1) = some (n - 1) := by
  unfold ixN
  rw [if_neg (by decide), if_pos (by omega)]
  congr 1
  omega
theorem ix1_0 : ixN 1 0 = some 0 := rfl
theorem ix2_0 : ixN 2 0 = some 0 := rfl
theorem ix2_1 : ixN 2 1 = some 1 := rfl
theorem ix3_0 : ixN 3 0 = some 0 := rfl
theorem ix3_1 : ixN 3 1 = some 1 := rfl
theorem ix3_2 : ixN 3 2 = some 2 := rfl
theorem mut_int {i : Int} : (T.int i).mutable = false := rfl
theorem okLen_of {n : Nat} (h : n ≤ 1000000) : okLen n = true := decide_eq_true h
theorem lt_big {n : Nat} (h : n < 2 ^ 2000) : n < bigN := Nat.lt_of_lt_of_le h (Nat.pow_le_pow_right (by decide) (by decide))
theorem lt_div {n : Nat} (h : n < 2 ^ 2000) : n < divN := Nat.lt_of_lt_of_le h (Nat.pow_le_pow_right (by decide) (by decide))

end Pv
end

section
set_option Elab.async false
set_option linter.all false
set_option maxRecDepth 100000
set_option maxHeartbeats 2000000
/-! PvRun4: more of the operations of plain data: texts, rows of texts, guards of repr, sorted. -/
namespace Pv
open PySem
open L2 (ixN)
/-! ### equal, in -/
theorem pl_map {α : Type} {f : α → T} : ∀ {l : List α}, (∀ x ∈ l, (f x).pl = true) → Ts.pl (l.map f) = true
  | [], _ => rfl
  | x :: l, h => by
    show ((f x).pl && Ts.pl (l.map f)) = true
    rw [h x (.head _), pl_map fun y hy => h y (.tail _ hy)]
    rfl
theorem pl_strs {l : List (List Nat)} : Ts.pl (l.map T.str) = true := pl_map fun _ _ => rfl
theorem pl_ints {l : List Int} : Ts.pl (l.map T.int) = true := pl_map fun _ _ => rfl
theorem eqv_str {a b : List Nat} : PyData.eqv (T.str a).d (T.str b).d = decide (a = b) := by
  simp only [T.d, PyData.eqv]
  by_cases h : a = b
  · subst h; simp
  · have : (⟨a.toArray⟩ : Str) ≠ ⟨b.toArray⟩ := fun z => h (by injection z with z; simpa using z)
    simp [h, this]
theorem eqv_int {a b : Int} : PyData.eqv (T.int a).d (T.int b).d = decide (a = b) := by
  simp only [T.d, PyData.eqv]
  by_cases h : a = b
  · subst h; simp
  · simp [h]
theorem any_map_str {x : List Nat} : ∀ {l : List (List Nat)}, ((l.map T.str).any fun y => PyData.eqv y.d (T.str x).d) = decide (x ∈ l)
  | [] => by simp
  | y :: l => by
    simp only [List.map_cons, List.any_cons, eqv_str, any_map_str (l := l), List.mem_cons]
    by_cases h : y = x
    · subst h; simp
    · have h' : ¬ x = y := fun z => h z.symm
      simp [h, h']
theorem memT_str {x : List Nat} {l : List (List Nat)} : memT (.str x) (l.map .str) = some (decide (x ∈ l)) := by
  unfold memT
  rw [if_pos (by simp [T.pl, pl_strs, T.dep]), any_map_str]
section
variable {P : Bool → Prop}
theorem wp_in_strt {x : List Nat} {l : List (List Nat)} : wp (inT (.str x) (.tup (l.map .str))) P ↔ P (decide (x ∈ l)) := by
  show wp (memT _ _) P ↔ _
  rw [memT_str, wp_some]
theorem wp_in_strl {x : List Nat} {l : List (List Nat)} : wp (inT (.str x) (.lst (l.map .str))) P ↔ P (decide (x ∈ l)) := by
  show wp (memT _ _) P ↔ _
  rw [memT_str, wp_some]
theorem wp_eq_int {i j : Int} : wp (eqT (.int i) (.int j)) P ↔ P (decide (i = j)) := by
  unfold eqT
  rw [if_pos (by simp [T.pl, T.dep]), eqv_int, wp_some]
theorem wp_eq_str {i j : List Nat} : wp (eqT (.str i) (.str j)) P ↔ P (decide (i = j)) := by
  unfold eqT
  rw [if_pos (by simp [T.pl, T.dep]), eqv_str, wp_some]
theorem wp_eq_nil {l : List T} : wp (eqT (.lst l) (.lst [])) P ↔ Ts.pl l = true ∧ P l.isEmpty := by
  unfold eqT
  have e : (min (T.lst l).dep (T.lst []).dep ≤ 60) := Nat.le_trans (Nat.min_le_right _ _) (by decide)
  by_cases h : Ts.pl l = true
  · rw [if_pos (by simp [T.pl, Ts.pl, h, e]), eqv_nil, wp_some]
    simp [h]
  · rw [if_neg (by simp [T.pl, Ts.pl, h]), wp_none]
    simp [h]
end
/-! ### places -/
theorem wp_ix_tup {Q : T → Prop} {l : List T} {k : Nat} {t : T} (h : l[k]? = some t) (q : Q t) : wp (ixT (.tup l) (.int (k : Int))) Q := by
  have lt : k < l.length := by
    rcases Nat.lt_or_ge k l.length with z | z
    · exact z
    · rw [List.getElem?_eq_none z] at h; cases h
  exact ⟨t, by show (ixN l.length (k : Int)).bind (l[·]?) = _; rw [ixN_nn lt]; exact h, q⟩
theorem wp_ix_lst {Q : T → Prop} {l : List T} {k : Nat} {t : T} (h : l[k]? = some t) (q : Q t) : wp (ixT (.lst l) (.int (k : Int))) Q := by
  have lt : k < l.length := by
    rcases Nat.lt_or_ge k l.length with z | z
    · exact z
    · rw [List.getElem?_eq_none z] at h; cases h
  exact ⟨t, by show (ixN l.length (k : Int)).bind (l[·]?) = _; rw [ixN_nn lt]; exact h, q⟩
theorem popL_last {l : List T} {x : T} (h : l.length < 1000000) : popL (l ++ [x]) (-1) = some (x, l) := by
  unfold popL
  have hl : (l ++ [x]).length = l.length + 1 := by simp
  rw [if_pos (okLen_of (by omega)), ixN_m1 (by omega), hl, Nat.add_sub_cancel]
  show ((l ++ [x])[l.length]?).bind _ = _
  rw [List.getElem?_concat_length]
  show some (x, _) = _
  rw [List.eraseIdx_append_of_length_le (Nat.le_refl _)]
  simp
theorem popL_at {l : List T} {k : Nat} (hk : k < l.length) (h : l.length ≤ 1000000) : popL l (k : Int) = some (l[k], l.eraseIdx k) := by
  unfold popL
  rw [if_pos (okLen_of h), ixN_nn hk]
  show (l[k]?).bind _ = _
  rw [List.getElem?_eq_getElem hk]
  rfl
theorem wp_pop_last {l : List T} {x : T} {Q : T × List T → Prop} (h : l.length < 1000000) : wp (popL (l ++ [x]) (-1)) Q ↔ Q (x, l) := by rw [popL_last h, wp_some]
theorem isE_concat {l : List T} {x : T} : (l ++ [x]).isEmpty = false := by cases l <;> rfl
theorem lt_big64 {i : Int} (h : -18446744073709551616 < i) (h' : i < 18446744073709551616) : i.natAbs < bigN := lt_big (Nat.lt_trans (m := 18446744073709551616) (by omega) (by decide))
theorem lt_div64 {i : Int} (h : -18446744073709551616 < i) (h' : i < 18446744073709551616) : i.natAbs < divN := lt_div (Nat.lt_trans (m := 18446744073709551616) (by omega) (by decide))
theorem bind_star {s k : Nat} {l : List T} {x : T} {e : Env} {P : Env → Prop} : wp (bindP (.star [] s [k]) (.tup (l ++ [x])) e) P ↔ P ((e.set s (some (.lst l))).set k (some x)) := by
  have h0 : bindP (.star [] s [k]) (.tup (l ++ [x])) e = if ([] : List Nat).length + [k].length ≤ (l ++ [x]).length then
      (setAll [] ((l ++ [x]).take ([] : List Nat).length) e).bind fun env => setAll [k] ((l ++ [x]).drop ((l ++ [x]).length - [k].length)) (env.set s (some (.lst (((l ++ [x]).take ((l ++ [x]).length - [k].length)).drop ([] : List Nat).length)))) else none := rfl
  rw [h0]
  have h1 : (l ++ [x]).length - [k].length = l.length := by simp
  rw [if_pos (by simp), h1, List.take_left, List.drop_left]
  exact wp_some
theorem map_erase {α β : Type} {f : α → β} : ∀ {l : List α} {k : Nat}, (l.map f).eraseIdx k = (l.eraseIdx k).map f
  | [], _ => rfl
  | _ :: _, 0 => rfl
  | x :: l, k + 1 => by
    show f x :: (l.map f).eraseIdx k = f x :: (l.eraseIdx k).map f
    rw [map_erase]
/-! ### sorted -/
theorem strsOf_map : ∀ {l : List (List Nat)}, strsOf (l.map .str) = some l
  | [] => rfl
  | x :: l => by
    show (strsOf (l.map .str)).map (x :: ·) = _
    rw [strsOf_map]
    rfl
theorem sortT_strs {l : List (List Nat)} (h : l.length < 64) : sortT (l.map .str) = some (.lst ((sortS l).map .str)) := by
  cases l with
  | nil => rfl
  | cons x l =>
    unfold sortT
    have e : intsOf ((x :: l).map .str) = none := rfl
    rw [e, strsOf_map]
    simp only [if_pos h]
theorem intsOf_map : ∀ {l : List Int}, intsOf (l.map .int) = some l
  | [] => rfl
  | x :: l => by
    show (intsOf (l.map .int)).map (x :: ·) = _
    rw [intsOf_map]
    rfl
/-! ### repr's guards -/
theorem small_map {α : Type} {f : α → T} : ∀ {l : List α}, (∀ x ∈ l, (f x).small = true) → Ts.small (l.map f) = true
  | [], _ => rfl
  | x :: l, h => by
    show ((f x).small && Ts.small (l.map f)) = true
    rw [h x (.head _), small_map fun y hy => h y (.tail _ hy)]
    rfl
theorem dep_map {α : Type} {f : α → T} {d : Nat} : ∀ {l : List α}, (∀ x ∈ l, (f x).dep ≤ d) → Ts.dep (l.map f) ≤ d
  | [], _ => Nat.zero_le _
  | x :: l, h => Nat.max_le.mpr ⟨h x (.head _), dep_map fun y hy => h y (.tail _ hy)⟩
theorem wt_map {α : Type} {f : α → T} {d : Nat} : ∀ {l : List α}, (∀ x ∈ l, (f x).wt ≤ d) → Ts.wt (l.map f) ≤ l.length * (d + 2)
  | [], _ => Nat.zero_le _
  | x :: l, h => by
    have h1 := h x (.head _)
    have h2 := wt_map fun y hy => h y (.tail _ hy)
    show (f x).wt + 2 + Ts.wt (l.map f) ≤ (l.length + 1) * (d + 2)
    rw [Nat.add_mul, Nat.one_mul]
    omega
theorem small_int {i : Int} (h : i.natAbs < 2 ^ 64) : (T.int i).small = true := by
  show decide (i.natAbs.log2 < 1920) = true
  refine decide_eq_true ?_
  by_cases z : i.natAbs = 0
  · rw [z]; decide
  · exact (Nat.log2_lt z).mpr (Nat.lt_of_lt_of_le h (Nat.pow_le_pow_right (by decide) (by decide)))
/-- a thing that repr may be asked of; so deep, so long -/
structure Rp (t : T) (d n : Nat) : Prop where
  p : t.pl = true
  s : t.small = true
  d : t.dep ≤ d
  w : t.wt ≤ n
theorem Rp.imp {t : T} {d d' n n' : Nat} (h : Rp t d n) (hd : d ≤ d') (hn : n ≤ n') : Rp t d' n' := ⟨h.p, h.s, Nat.le_trans h.d hd, Nat.le_trans h.w hn⟩
theorem Rp.int {i : Int} (h : i.natAbs < 2 ^ 64) : Rp (.int i) 0 2000 := ⟨rfl, small_int h, Nat.le_refl _, Nat.le_refl _⟩
theorem Rp.str {s : List Nat} {n : Nat} (h : s.length ≤ n) : Rp (.str s) 0 (10 * n + 2) := ⟨rfl, rfl, Nat.le_refl _, by show 10 * s.length + 2 ≤ _; omega⟩
theorem Rp.non : Rp .non 0 5 := ⟨rfl, rfl, Nat.le_refl _, Nat.le_refl _⟩
theorem Rp.tup {l : List T} {d n m : Nat} (h : ∀ t ∈ l, Rp t d n) (hl : l.length ≤ m) : Rp (.tup l) (d + 1) (m * (n + 2) + 4) := by
  have e : l = l.map id := (List.map_id l).symm
  refine ⟨?_, ?_, ?_, ?_⟩
  · show Ts.pl l = true
    rw [e]; exact pl_map fun t ht => (h t ht).p
  · show Ts.small l = true
    rw [e]; exact small_map fun t ht => (h t ht).s
  · show Ts.dep l + 1 ≤ d + 1
    rw [e]; exact Nat.succ_le_succ (dep_map fun t ht => (h t ht).d)
  · show Ts.wt l + 4 ≤ _
    have := wt_map (f := id) fun t ht => (h t ht).w
    rw [← e] at this
    exact Nat.add_le_add_right (Nat.le_trans this (Nat.mul_le_mul_right _ hl)) 4
theorem Rp.lst {l : List T} {d n m : Nat} (h : ∀ t ∈ l, Rp t d n) (hl : l.length ≤ m) : Rp (.lst l) (d + 1) (m * (n + 2) + 4) := by
  have := Rp.tup h hl
  exact ⟨this.p, this.s, this.d, this.w⟩
theorem wp_repr {Q : T → Prop} {t : T} {d n : Nat} (h : Rp t d n) (hd : d ≤ 60) (hn : n ≤ 1000000) (hq : t.isSq = true) (q : Q (.str (reprT t))) : wp (reprB [t]) Q :=
  ⟨_, by
    show (if _ then _ else _) = _
    rw [if_pos]
    rw [hq, h.p, h.s, decide_eq_true (Nat.le_trans h.d hd), okLen_of (Nat.le_trans h.w hn)]
    rfl, q⟩
theorem okLen_map {α : Type} {f : α → T} {l : List α} (h : l.length ≤ 1000000) : okLen (l.map f).length = true := okLen_of (by rw [List.length_map]; exact h)
/-! ### comprehensions over rows of things -/
theorem wipe_len : ∀ {l : List Nat} {e : Env}, (wipeE l e).length = e.length
  | [], _ => rfl
  | i :: l, e => by
    show ((wipeE l e).set i none).length = _
    rw [List.length_set, wipe_len]
theorem wipe_out : ∀ {l : List Nat} {e : Env} {k : Nat}, k ∉ l → (wipeE l e)[k]? = e[k]?
  | [], _, _, _ => rfl
  | i :: l, e, k, h => by
    show ((wipeE l e).set i none)[k]? = _
    have : i ≠ k := fun z => h (z ▸ List.mem_cons_self)
    rw [List.getElem?_set_ne this, wipe_out fun z => h (List.mem_cons_of_mem _ z)]
theorem wipe_in : ∀ {l : List Nat} {e : Env} {k : Nat}, k ∈ l → k < e.length → (wipeE l e)[k]? = some none
  | i :: l, e, k, h, lt => by
    show ((wipeE l e).set i none)[k]? = _
    by_cases z : i = k
    · subst z
      rw [List.getElem?_set_self (by rw [wipe_len]; exact lt)]
    · rw [List.getElem?_set_ne z]
      exact wipe_in (by rcases List.mem_cons.mp h with y | y; exact absurd y.symm z; exact y) lt
theorem ag_wipe {vs : List Nat} {a e : Env} : Ag vs a e ↔ wipeE vs e = wipeE vs a := by
  constructor
  · refine fun h => List.ext_getElem? fun k => ?_
    by_cases hk : k ∈ vs
    · by_cases lt : k < a.length
      · rw [wipe_in hk lt, wipe_in hk (h.1 ▸ lt)]
      · rw [List.getElem?_eq_none (by rw [wipe_len, ← h.1]; omega), List.getElem?_eq_none (by rw [wipe_len]; omega)]
    · rw [wipe_out hk, wipe_out hk, h.2 k hk]
  · intro h
    refine ⟨?_, fun k hk => ?_⟩
    · have := congrArg List.length h
      rw [wipe_len, wipe_len] at this
      exact this.symm
    · rw [← wipe_out (e := e) hk, h, wipe_out hk]
section
variable {C : Cal} {env : Env} {Q : T → Env → Prop}
theorem wE_lcm {α : Type} {p : Pat} {it : Wk} {cs : List Ir} {x : Ir} (L : List α) (f : α → T) (b : α → Bool) (g : α → T) (h : wI C it env fun l env1 => l = L.map f ∧
      (∀ a ∈ L, wp (bindP p (f a) (wipeE p.slots env1)) fun e1 => wC C cs e1 fun b' e2 => b' = b a ∧ (b a = true → wE C x e2 fun v e3 => v = g a ∧ wipeE p.slots e3 = wipeE p.slots env1) ∧ (b a = false → wipeE p.slots e2 = wipeE p.slots env1)) ∧
      L.length ≤ 1000000 ∧ Q (.lst ((L.filter b).map g)) env1) : wE C (.lc p it cs [] x) env Q := by
  refine wE_lc (wp.imp h fun ⟨l, env1⟩ h => ?_)
  obtain ⟨el, st, ok, q⟩ := h
  refine ⟨fun l' xs e => ∃ done rest, L = done ++ rest ∧ l' = rest.map f ∧ xs = (done.filter b).map g ∧ Ag p.slots env1 e, ⟨[], L, rfl, el, rfl, .refl⟩, fun t l' xs e ⟨done, rest, e1, e2, e3, e4⟩ => ?_, fun xs e2 ⟨done, rest, e1, e2, e3, e4⟩ => ?_⟩
  · cases rest with
    | nil => cases e2
    | cons a rest =>
      rw [List.map_cons, List.cons.injEq] at e2
      obtain ⟨rfl, e2⟩ := e2
      have ha : a ∈ L := by rw [e1]; simp
      have s := st a ha
      rw [← ag_wipe.mp e4] at s
      refine wp.imp s fun e5 s => wp.imp s fun r ⟨s0, s1, s2⟩ => ⟨fun z => ?_, fun z => ?_⟩
      · have z' : b a = true := by rw [← s0]; exact z
        exact wp.imp (s1 z') fun r ⟨v, a'⟩ => ⟨done ++ [a], rest, by rw [e1]; simp, e2, by rw [e3, v]; simp [List.filter_append, z'], ag_wipe.mpr (a'.trans (ag_wipe.mp e4))⟩
      · have z' : b a = false := by rw [← s0]; exact z
        exact ⟨done ++ [a], rest, by rw [e1]; simp, e2, by rw [e3]; simp [List.filter_append, z'], ag_wipe.mpr ((s2 z').trans (ag_wipe.mp e4))⟩
  · cases rest with
    | cons a rest => cases e2
    | nil =>
      rw [List.append_nil] at e1
      subst e1 e3
      refine ⟨okLen_of ?_, by rw [restore_eq e4]; exact q⟩
      rw [List.length_map]
      exact Nat.le_trans (List.length_filter_le _ _) ok
theorem wE_map {α : Type} {p : Pat} {it : Wk} {x : Ir} (L : List α) (f : α → T) (g : α → T) (h : wI C it env fun l env1 => l = L.map f ∧
      (∀ a ∈ L, wp (bindP p (f a) (wipeE p.slots env1)) fun e1 => wE C x e1 fun v e3 => v = g a ∧ wipeE p.slots e3 = wipeE p.slots env1) ∧
      L.length ≤ 1000000 ∧ Q (.lst (L.map g)) env1) : wE C (.lc p it [] [] x) env Q := by
  refine wE_lcm L f (fun _ => true) g (wp.imp h fun ⟨l, env1⟩ h => ?_)
  obtain ⟨el, st, ok, q⟩ := h
  refine ⟨el, fun a ha => wp.imp (st a ha) fun e1 s => ?_, ok, by rw [List.filter_eq_self.mpr fun _ _ => rfl]; exact q⟩
  rw [wC_nil]
  exact ⟨rfl, fun _ => s, fun z => by cases z⟩
end
section
variable {C : Cal} {env : Env} {R : Fl → Env → Prop}
theorem wS_form {α : Type} {p : Pat} {it : Wk} {b : List Stm} (L : List α) (f : α → T) (I : List α → Env → Prop) (h : wI C it env fun l env1 => l = L.map f ∧ I [] env1 ∧
      (∀ a done rest e, L = done ++ a :: rest → I done e → wp (bindP p (f a) e) fun e1 => wB C b e1 fun r e2 => (r = .nx ∨ r = .cont → I (done ++ [a]) e2) ∧ (r = .brk → R .nx e2) ∧ ∀ v, r = .ret v → R (.ret v) e2) ∧
      ∀ e, I L e → R .nx e) : wS C (.for_ p it b) env R := by
  refine wS_for (wp.imp h fun ⟨l, env1⟩ h => ?_)
  obtain ⟨el, i0, st, en⟩ := h
  refine ⟨fun l' e => ∃ done rest, L = done ++ rest ∧ l' = rest.map f ∧ I done e, ⟨[], L, rfl, el, i0⟩, fun t l' e ⟨done, rest, e1, e2, e3⟩ => ?_, fun e ⟨done, rest, e1, e2, e3⟩ => ?_⟩
  · cases rest with
    | nil => cases e2
    | cons a rest =>
      rw [List.map_cons, List.cons.injEq] at e2
      obtain ⟨rfl, e2⟩ := e2
      exact wp.imp (st a done rest e e1 e3) fun e5 s => wp.imp s fun r ⟨s0, s1⟩ => ⟨fun z => ⟨done ++ [a], rest, by rw [e1]; simp, e2, s0 z⟩, s1⟩
  · cases rest with
    | cons a rest => cases e2
    | nil =>
      rw [List.append_nil] at e1
      subst e1
      exact en e e3
end
section
variable {C : Cal} {env : Env} {Q : T → Env → Prop}
/-- a comprehension over range(m) -/
theorem wE_rng {p : Pat} {x : Ir} {m : Nat} (g : Nat → T) (hm : m ≤ 1000000) (h : ∀ k, k < m → wp (bindP p (.int (k : Int)) (wipeE p.slots env)) fun e1 => wE C x e1 fun v e3 => v = g k ∧ wipeE p.slots e3 = wipeE p.slots env)
    (q : Q (.lst ((List.range m).map g)) env) : wE C (.lc p (.range (.con (.int (m : Int)))) [] [] x) env Q := by
  refine wE_map (List.range m) (fun k : Nat => T.int (0 + (k : Int))) g ?_
  rw [wI_range, wE_con, wp_intOf]
  refine ⟨?_, ?_, fun k hk => ?_, ?_, q⟩
  · rw [decide_eq_true (by omega), decide_eq_true (by omega)]; rfl
  · rw [Int.toNat_natCast]
  · show wp (bindP p (.int (0 + (k : Int))) _) _
    rw [Int.zero_add]
    exact h k (List.mem_range.mp hk)
  · rw [List.length_range]; exact hm
end
end Pv
end

section
set_option Elab.async false
set_option linter.all false
/-! Gyo: sets that are eaten up: whichever set that may go goes first, the rest is eaten up (plain lists). -/
namespace Gyo
abbrev Tx := List Nat
/-- what it has in common with the others one of them has -/
def ear (a : List Tx) (l : List (List Tx)) : Prop := ∃ b ∈ l, ∀ s ∈ a, (∃ c ∈ l, s ∈ c) → s ∈ b
inductive Red : List (List Tx) → Prop
  | small {l : List (List Tx)} : l.length ≤ 1 → Red l
  | step {l m : List (List Tx)} {a : List Tx} : l.Perm (a :: m) → ear a m → Red m → Red l
theorem ear.perm {a : List Tx} {l m : List (List Tx)} (h : ear a l) (p : l.Perm m) : ear a m := by
  obtain ⟨b, hb, k⟩ := h
  exact ⟨b, p.mem_iff.mp hb, fun s hs ⟨c, hc, sc⟩ => k s hs ⟨c, p.mem_iff.mpr hc, sc⟩⟩
theorem Red.perm {l m : List (List Tx)} (h : Red l) (p : l.Perm m) : Red m := by
  cases h with
  | small h => exact .small (p.length_eq ▸ h)
  | step q e r => exact .step (p.symm.trans q) e r
theorem two {a j : List Tx} {m l : List (List Tx)} (h : (a :: m).Perm (j :: l)) : (a = j ∧ m.Perm l) ∨ ∃ r, m.Perm (j :: r) ∧ l.Perm (a :: r) := by
  by_cases e : a = j
  · subst e; exact .inl ⟨rfl, h.cons_inv⟩
  · have hj : j ∈ m := by
      have : j ∈ a :: m := h.mem_iff.mpr List.mem_cons_self
      rcases List.mem_cons.mp this with z | z
      · exact absurd z.symm e
      · exact z
    have p := List.perm_cons_erase hj
    exact .inr ⟨m.erase j, p, (((p.cons a).trans (List.Perm.swap ..)).symm.trans h).cons_inv.symm⟩
/-- one of two that meet the others alike in the other's place -/
theorem rep {l : List (List Tx)} (h : Red l) : ∀ {j a : List Tx} {r : List (List Tx)}, l.Perm (j :: r) → (∀ c ∈ r, ∀ s ∈ c, s ∈ a ↔ s ∈ j) → Red (a :: r) := by
  induction h with
  | small h => intro j a r p _; exact .small (by have := p.length_eq; simp only [List.length_cons] at this ⊢; omega)
  | @step l m x q e rm ih =>
    intro j a r p k
    rcases two (q.symm.trans p) with ⟨rfl, pm⟩ | ⟨r', p1, p2⟩
    · obtain ⟨b, hb, kb⟩ := e.perm pm
      exact .step (.refl _) ⟨b, hb, fun s hs ⟨c, hc, sc⟩ => kb s ((k c hc s sc).mp hs) ⟨c, hc, sc⟩⟩ (rm.perm pm)
    · have ra : Red (a :: r') := ih p1 (a := a) fun c hc s sc => k c (p2.mem_iff.mpr (.tail _ hc)) s sc
      have kx : ∀ s ∈ x, s ∈ a ↔ s ∈ j := fun s hs => k x (p2.mem_iff.mpr (.head _)) s hs
      obtain ⟨b, hb, kb⟩ := e.perm p1
      have kb' : ∀ s ∈ x, (∃ c ∈ a :: r', s ∈ c) → s ∈ b := fun s hs ⟨c, hc, sc⟩ => kb s hs (by
        rcases List.mem_cons.mp hc with z | hc
        · exact ⟨j, .head _, (kx s hs).mp (z ▸ sc)⟩
        · exact ⟨c, .tail _ hc, sc⟩)
      refine .step ((p2.cons a).trans (List.Perm.swap ..)) ?_ ra
      rcases List.mem_cons.mp hb with z | hb
      · exact ⟨a, .head _, fun s hs y => (kx s hs).mpr (z ▸ kb' s hs y)⟩
      · exact ⟨b, .tail _ hb, kb'⟩
theorem drop' : ∀ (n : Nat) {l : List (List Tx)}, l.length ≤ n → Red l → ∀ {j : List Tx} {l' : List (List Tx)}, l.Perm (j :: l') → ear j l' → Red l'
  | 0, l, hn, _, j, l', p, _ => by have := p.length_eq; simp only [List.length_cons] at this; omega
  | n + 1, l, hn, h, j, l', p, ej => by
    cases h with
    | small h => exact .small (by have := p.length_eq; simp only [List.length_cons] at this; omega)
    | @step _ m a q e rm =>
      rcases two (q.symm.trans p) with ⟨_, pm⟩ | ⟨r, p1, p2⟩
      · exact rm.perm pm
      · have hm : m.length ≤ n := by have := q.length_eq; simp only [List.length_cons] at this; omega
        obtain ⟨h, hh, kh⟩ := e.perm p1
        obtain ⟨g, hg, kg⟩ := ej.perm p2
        rcases List.mem_cons.mp hh with zj | hr
        · subst zj
          rcases List.mem_cons.mp hg with za | gr
          · subst za
            exact (rep rm p1 fun c hc s sc => ⟨fun hs => kh s hs ⟨c, .tail _ hc, sc⟩, fun hs => kg s hs ⟨c, .tail _ hc, sc⟩⟩).perm p2.symm
          · have rr : Red r := drop' n hm rm p1 ⟨g, gr, fun s hs ⟨c, hc, sc⟩ => kg s hs ⟨c, .tail _ hc, sc⟩⟩
            exact .step p2 ⟨g, gr, fun s hs ⟨c, hc, sc⟩ => kg s (kh s hs ⟨c, .tail _ hc, sc⟩) ⟨c, .tail _ hc, sc⟩⟩ rr
        · have ea : ear a r := ⟨h, hr, fun s hs ⟨c, hc, sc⟩ => kh s hs ⟨c, .tail _ hc, sc⟩⟩
          have rr : Red r := by
            refine drop' n hm rm p1 ?_
            rcases List.mem_cons.mp hg with za | gr
            · subst za
              exact ⟨h, hr, fun s hs ⟨c, hc, sc⟩ => kh s (kg s hs ⟨c, .tail _ hc, sc⟩) ⟨c, .tail _ hc, sc⟩⟩
            · exact ⟨g, gr, fun s hs ⟨c, hc, sc⟩ => kg s hs ⟨c, .tail _ hc, sc⟩⟩
          exact .step p2 ea rr
/-- whichever may go goes -/
theorem Red.drop {l l' : List (List Tx)} {j : List Tx} (h : Red l) (p : l.Perm (j :: l')) (e : ear j l') : Red l' := drop' l.length (Nat.le_refl _) h p e
theorem Red.top {t : List Tx} : ∀ {l : List (List Tx)}, (∀ x ∈ l, ∀ s ∈ x, s ∈ t) → Red (t :: l)
  | [], _ => .small (Nat.le_refl _)
  | x :: l, h => .step (List.Perm.swap ..) ⟨t, .head _, fun s hs _ => h x (.head _) s hs⟩ (Red.top fun y hy => h y (.tail _ hy))
theorem Red.more {l : List (List Tx)} {a : List Tx} (h : Red l) (e : ear a l) : Red (l ++ [a]) := .step List.perm_append_comm e h
theorem Red.some_ear {l : List (List Tx)} (h : Red l) (n : 1 < l.length) : ∃ a m, l.Perm (a :: m) ∧ ear a m := by
  cases h with
  | small h => omega
  | step p e _ => exact ⟨_, _, p, e⟩

/-! ### by numbers -/
variable {S : List (List Tx)}
def at_ (S : List (List Tx)) (i : Nat) : List Tx := S.getD i []
/-- j may go, k holds what it has in common with the others -/
def May (S : List (List Tx)) (left : List Nat) (j k : Nat) : Prop := j ∈ left ∧ k ∈ left ∧ k ≠ j ∧ ∀ s ∈ at_ S j, (∃ o ∈ left, o ≠ j ∧ s ∈ at_ S o) → s ∈ at_ S k
theorem erase_mem {left : List Nat} (nd : left.Nodup) {j k : Nat} : k ∈ left.erase j ↔ k ≠ j ∧ k ∈ left := List.Nodup.mem_erase_iff nd
theorem may_some {left : List Nat} (nd : left.Nodup) (h : Red (left.map (at_ S))) (n : 1 < left.length) : ∃ j k, May S left j k := by
  obtain ⟨a, m, p, e⟩ := h.some_ear (by rw [List.length_map]; exact n)
  obtain ⟨j, hj, rfl⟩ := List.mem_map.mp (p.mem_iff.mpr (.head _))
  have q : ((left.erase j).map (at_ S)).Perm m := (((List.perm_cons_erase hj).map (at_ S)).symm.trans p).cons_inv
  obtain ⟨b, hb, kb⟩ := e.perm q.symm
  obtain ⟨k, hk, rfl⟩ := List.mem_map.mp hb
  have hk' := (erase_mem nd).mp hk
  exact ⟨j, k, hj, hk'.2, hk'.1, fun s hs ⟨o, ho, oj, so⟩ => kb s hs ⟨_, List.mem_map.mpr ⟨o, (erase_mem nd).mpr ⟨oj, ho⟩, rfl⟩, so⟩⟩
theorem may_red {left : List Nat} (nd : left.Nodup) (h : Red (left.map (at_ S))) {j k : Nat} (m : May S left j k) : Red ((left.erase j).map (at_ S)) := by
  obtain ⟨hj, hk, kj, f⟩ := m
  refine h.drop ((List.perm_cons_erase hj).map (at_ S)) ⟨at_ S k, List.mem_map.mpr ⟨k, (erase_mem nd).mpr ⟨kj, hk⟩, rfl⟩, fun s hs ⟨c, hc, sc⟩ => ?_⟩
  obtain ⟨o, ho, rfl⟩ := List.mem_map.mp hc
  exact f s hs ⟨o, ((erase_mem nd).mp ho).2, ((erase_mem nd).mp ho).1, sc⟩

/-! ### each sign stands in one set more than in cuts -/
def nIn (S : List (List Tx)) (s : Tx) (left : List Nat) : Nat := left.countP fun i => decide (s ∈ at_ S i)
def nCut (S : List (List Tx)) (s : Tx) (ps : List (Nat × Nat)) : Nat := ps.countP fun p => decide (s ∈ at_ S p.1 ∧ s ∈ at_ S p.2)
theorem cut_step {left : List Nat} (nd : left.Nodup) {j k : Nat} (m : May S left j k) (s : Tx) (ps : List (Nat × Nat)) : nCut S s (ps ++ [(j, k)]) + max (nIn S s (left.erase j)) 1 = nCut S s ps + max (nIn S s left) 1 := by
  obtain ⟨hj, hk, kj, f⟩ := m
  have e1 : nIn S s left = nIn S s (left.erase j) + if s ∈ at_ S j then 1 else 0 := by
    unfold nIn
    rw [(List.perm_cons_erase hj).countP_eq, List.countP_cons]
    by_cases z : s ∈ at_ S j <;> simp [z]
  have e2 : nCut S s (ps ++ [(j, k)]) = nCut S s ps + if s ∈ at_ S j ∧ s ∈ at_ S k then 1 else 0 := by
    unfold nCut
    rw [List.countP_append]
    by_cases z : s ∈ at_ S j ∧ s ∈ at_ S k <;> simp [z]
  rw [e1, e2]
  by_cases z : s ∈ at_ S j
  · by_cases y : s ∈ at_ S k
    · have : 0 < nIn S s (left.erase j) := List.countP_pos_iff.mpr ⟨k, (erase_mem nd).mpr ⟨kj, hk⟩, by simp [y]⟩
      rw [if_pos z, if_pos ⟨z, y⟩]
      omega
    · have : nIn S s (left.erase j) = 0 := by
        refine List.countP_eq_zero.mpr fun o ho so => y (f s z ⟨o, ((erase_mem nd).mp ho).2, ((erase_mem nd).mp ho).1, ?_⟩)
        simpa using so
      rw [if_pos z, if_neg (fun h => y h.2), this]
      omega
  · rw [if_neg z, if_neg (fun h => z h.1)]; omega
theorem map_at : (List.range S.length).map (at_ S) = S := by
  refine (List.ext_getElem (by simp) fun i h1 h2 => ?_).symm
  simp only [List.getElem_map, List.getElem_range, at_]
  rw [List.getD_eq_getElem?_getD, List.getElem?_eq_getElem h1]
  rfl
theorem nIn_all (s : Tx) : nIn S s (List.range S.length) = S.countP fun c => decide (s ∈ c) := by
  have : S = (List.range S.length).map (at_ S) := by
    refine List.ext_getElem (by simp) fun i h1 h2 => ?_
    simp only [List.getElem_map, List.getElem_range, at_]
    rw [List.getD_eq_getElem?_getD, List.getElem?_eq_getElem h1]
    rfl
  conv => rhs; rw [this, List.countP_map]
  rfl
end Gyo
end

section
set_option Elab.async false
set_option linter.all false
set_option maxRecDepth 100000
set_option maxHeartbeats 2000000
namespace K10
/-- common(one, other): 0=one 1=other 2=sign -/
def f0 : Pv.Fn := ⟨2, 3, false, [
    .ret (.bi .tuple [.lc (.nm 2) (.ex (.nm 0)) [.cmp .isin (.nm 2) (.nm 1)] [] (.nm 2)])]⟩
/-- cuts_of(pattern, order): 0=pattern 1=order 2=last 3=pairs 4=j 5=k -/
def f1 : Pv.Fn := ⟨2, 6, false, [
    .asg (.star [] 3 [2]) (.nm 1),
    .ret (.bi .tuple [.lc (.tup [4, 5]) (.ex (.nm 3)) [] [] (.call 0 false [.ix (.nm 0) (.nm 4), .ix (.nm 0) (.nm 5)])])]⟩
/-- _law_deck(_law_script): 0=_law_script 1=_law_cells 2=_law_k 3=_law_cell -/
def f2 : Pv.Fn := ⟨1, 4, false, [
    .asg (.nm 1) (.bi .list [.sl (.nm 0) none (some (.con (.int 63)))]),
    .ret (.lst [.rev (.nm 1), .bin .add (.bi .sum [.lc (.tup [2, 3]) (.enum (.nm 1)) [] [] (.bin .mul (.bin .mod (.nm 3) (.con (.int 2147483579))) (.bin .add (.bin .mul (.con (.int 2)) (.nm 2)) (.con (.int 1))))]) (.bin .mul (.con (.int 509)) (.bi .len [.nm 1])), .con (.int 0)])]⟩
/-- _law_draw(_law_deck_here, _law_lots): 0=_law_deck_here 1=_law_lots 2=_law_cell 3=_law_mixed -/
def f3 : Pv.Fn := ⟨2, 4, true, [
    .setix 0 (.con (.int 2)) (.bin .add (.ixs 0 2) (.con (.int 1))),
    .asg (.nm 2) (.ixs 0 1),
    .ite (.dne 0 0) [
      .asg (.nm 2) (.pop 0 (some (.con (.int 0))) none),
      .ite (.cmp .ge (.nm 2) (.bin .pow (.con (.int 10)) (.con (.int 18)))) [
        .expr (.app 0 (some (.con (.int 0))) (.bin .fdiv (.nm 2) (.nm 1))),
        .ret (.bin .mod (.nm 2) (.nm 1))] []] [],
    .asg (.nm 3) (.bin .mod (.bin .mul (.bin .add (.bin .add (.bin .mod (.nm 2) (.con (.int 2147483629))) (.bin .mul (.bin .mul (.con (.int 92821)) (.ixs 0 2)) (.ixs 0 2))) (.con (.int 17))) (.con (.int 48271))) (.con (.int 2147483647))),
    .asg (.nm 3) (.bin .mod (.bin .add (.bin .add (.bin .mul (.nm 3) (.nm 3)) (.bin .mul (.con (.int 69621)) (.ixs 0 2))) (.con (.int 41))) (.con (.int 2147483587))),
    .ret (.bin .mod (.bin .fdiv (.bin .mod (.bin .mul (.nm 3) (.bin .add (.bin .fdiv (.nm 3) (.con (.int 7))) (.con (.int 39373)))) (.con (.int 2147483563))) (.con (.int 64))) (.nm 1))]⟩
/-- _law_pick(_law_deck_here, _law_some_here): 0=_law_deck_here 1=_law_some_here -/
def f4 : Pv.Fn := ⟨2, 2, true, [
    .ret (.ix (.nm 1) (.call 3 true [.nm 0, .bi .len [.nm 1]]))]⟩
/-- _law_called(_law_deck_here, _law_lots): 0=_law_deck_here 1=_law_lots 2=_law_abc 3=_law_words 4=_law_some_here 5=_law_sort 6=_law_first 7=_law_k -/
def f5 : Pv.Fn := ⟨2, 8, true, [
    .asg (.nm 2) (.con (.str [97, 98, 99, 100, 101, 102, 103, 104, 105, 106, 107, 108, 109, 110, 111, 112, 113, 114, 115, 116, 117, 118, 119, 120, 121, 122])),
    .asg (.tup [5, 6]) (.tup [.call 3 true [.nm 0, .con (.int 4)], .call 3 true [.nm 0, .con (.int 26)]]),
    .asg (.nm 3) (.lst [.con (.str [111, 102]), .con (.str [97]), .con (.str [97, 103, 101]), .con (.str [104, 97, 116]), .con (.str [114, 105, 110, 103]), .con (.str [99, 108, 117, 109, 112]), .con (.str [110, 111, 110, 101]), .con (.str [99, 97, 115, 101, 115]), .con (.str [103, 111]), .con (.str [97, 116])]),
    .asg (.nm 4) (.lst [.lc (.nm 7) (.range (.con (.int 8))) [] [] (.ix (.nm 2) (.bin .mod (.bin .add (.nm 6) (.bin .mul (.con (.int 5)) (.nm 7))) (.con (.int 26)))), .lc (.nm 7) (.range (.con (.int 8))) [] [] (.bin .mul (.ix (.nm 2) (.nm 6)) (.bin .add (.nm 7) (.con (.int 1))))]),
    .asg (.nm 4) (.bin .add (.nm 4) (.lst [.lc (.nm 7) (.range (.con (.int 8))) [] [] (.bin .add (.con (.str [104, 97, 116, 113, 113, 113, 113])) (.ix (.nm 2) (.bin .mod (.bin .add (.nm 6) (.bin .mul (.con (.int 3)) (.nm 7))) (.con (.int 26)))))])),
    .asg (.nm 4) (.bin .add (.nm 4) (.lst [.lc (.nm 7) (.range (.con (.int 8))) [] [] (.ix (.nm 3) (.bin .mod (.bin .add (.nm 6) (.nm 7)) (.con (.int 10))))])),
    .ret (.bi .sorted [.sl (.ix (.nm 4) (.nm 5)) none (some (.nm 1))])]⟩
/-- _law_some(_law_deck_here, _law_some_here): 0=_law_deck_here 1=_law_some_here 2=_law_left -/
def f6 : Pv.Fn := ⟨2, 3, true, [
    .asg (.nm 2) (.bi .list [.nm 1]),
    .while_ (.and (.cmp .ne (.nm 2) (.lst [])) (.cmp .gt (.call 3 true [.nm 0, .con (.int 3)]) (.con (.int 0)))) [
      .expr (.pop 2 none (some (.call 3 true [.nm 0, .bi .len [.nm 2]])))],
    .frz 2,
    .ret (.nm 2)]⟩
/-- _law_tree(_law_deck_here, _law_called_here, _law_lots): 0=_law_deck_here 1=_law_called_here 2=_law_lots 3=_law_fresh 4=_law_sign 5=_law_found 6=_law_own 7=_law_hangs 8=_law_k -/
def f7 : Pv.Fn := ⟨3, 9, true, [
    .asg (.nm 3) (.lc (.nm 8) (.range (.nm 2)) [] [] (.lst [])),
    .for_ (.nm 4) (.ex (.nm 1)) [
      .expr (.app 3 (some (.call 3 true [.nm 0, .nm 2])) (.nm 4))],
    .asg (.nm 5) (.lst []),
    .frz 3,
    .for_ (.nm 6) (.ex (.nm 3)) [
      .asg (.nm 7) (.ite (.cmp .ne (.nm 5) (.lst [])) (.call 6 true [.nm 0, .bi .list [.call 4 true [.nm 0, .nm 5]]]) (.lst [])),
      .expr (.app 5 none (.bi .tuple [.bi .sorted [.bin .add (.nm 6) (.nm 7)]]))],
    .ret (.nm 5)]⟩
/-- _law_eaten_sets(_law_deck_here, _law_extra): 0=_law_deck_here 1=_law_extra 2=_law_found 3=_law_fresh 4=_law_lots 5=_law_called_here 6=_law_k -/
def f8 : Pv.Fn := ⟨2, 7, true, [
    .par [4, 5] [.bin .add (.con (.int 1)) (.call 3 true [.nm 0, .con (.int 7)]), .call 5 true [.nm 0, .bin .add (.con (.int 1)) (.call 3 true [.nm 0, .con (.int 8)])]],
    .asg (.nm 2) (.call 7 true [.nm 0, .nm 5, .nm 4]),
    .asg (.nm 3) (.call 4 true [.nm 0, .nm 2]),
    .asg (.nm 2) (.bin .add (.nm 2) (.sl (.lst [.nm 3, .bi .tuple [.call 6 true [.nm 0, .nm 3]], .bi .tuple [.nm 5]]) (some (.nm 1)) (some (.bin .add (.nm 1) (.con (.int 1)))))),
    .ret (.bi .tuple [.lc (.nm 6) (.range (.bi .len [.nm 2])) [] [] (.pop 2 none (some (.call 3 true [.nm 0, .bi .len [.nm 2]])))])]⟩
/-- _law_may_go(_law_sets, _law_left): 0=_law_sets 1=_law_left 2=_law_found 3=_law_j 4=_law_others 5=_law_shared 6=_law_other 7=_law_sign 8=_law_k -/
def f9 : Pv.Fn := ⟨2, 9, false, [
    .asg (.nm 2) (.lst []),
    .for_ (.nm 3) (.ex (.nm 1)) [
      .asg (.nm 4) (.lc (.nm 6) (.ex (.nm 1)) [.cmp .ne (.nm 6) (.nm 3)] [] (.nm 6)),
      .asg (.nm 5) (.lc (.nm 7) (.ex (.ix (.nm 0) (.nm 3))) [.cmp .ne (.lc (.nm 6) (.ex (.nm 4)) [.cmp .isin (.nm 7) (.ix (.nm 0) (.nm 6))] [] (.con (.int 1))) (.lst [])] [] (.nm 7)),
      .asg (.nm 2) (.bin .add (.nm 2) (.lc (.nm 8) (.ex (.nm 4)) [.cmp .eq (.lc (.nm 7) (.ex (.nm 5)) [.cmp .notin (.nm 7) (.ix (.nm 0) (.nm 8))] [] (.nm 7)) (.lst [])] [] (.tup [.nm 3, .nm 8])))],
    .ret (.nm 2)]⟩
/-- _law_drawn_order(_law_deck_here, _law_sets): 0=_law_deck_here 1=_law_sets 2=_law_left 3=_law_found 4=_law_some_here 5=_law_j 6=_law_k -/
def f10 : Pv.Fn := ⟨2, 7, true, [
    .par [2, 3] [.lrg (.bi .len [.nm 1]), .lst []],
    .while_ (.cmp .gt (.bi .len [.nm 2]) (.con (.int 1))) [
      .asg (.nm 4) (.call 9 false [.nm 1, .nm 2]),
      .asg (.tup [5, 6]) (.ite (.cmp .ne (.nm 4) (.lst [])) (.call 4 true [.nm 0, .nm 4]) (.tup [.ix (.nm 2) (.con (.int 0)), .ix (.nm 2) (.neg (.con (.int 1)))])),
      .expr (.app 3 none (.tup [.nm 5, .nm 6])),
      .expr (.rem 2 (.nm 5))],
    .ret (.bin .add (.bi .tuple [.nm 3]) (.tup [.tup [.ix (.nm 2) (.con (.int 0)), .con (.non)]]))]⟩
/-- _law_in(_law_sets, _law_sign): 0=_law_sets 1=_law_sign 2=_law_own -/
def f11 : Pv.Fn := ⟨2, 3, false, [
    .ret (.bi .len [.lc (.nm 2) (.ex (.nm 0)) [.cmp .isin (.nm 1) (.nm 2)] [] (.con (.int 1))])]⟩
/-- _law_right(_law_sets, _law_one, _law_called_here): 0=_law_sets 1=_law_one 2=_law_called_here 3=_law_due 4=_law_kept 5=_law_far 6=_law_others 7=_law_told 8=_law_turned 9=_law_sign 10=_law_j 11=_law_k -/
def f12 : Pv.Fn := ⟨3, 12, false, [
    .asg (.nm 3) (.bi .tuple [.lc (.tup [10, 11]) (.ex (.sl (.nm 1) none (some (.neg (.con (.int 1)))))) [] [] (.bi .tuple [.lc (.nm 9) (.ex (.ix (.nm 0) (.nm 10))) [.cmp .isin (.nm 9) (.ix (.nm 0) (.nm 11))] [] (.nm 9)])]),
    .asg (.nm 4) (.bi .repr [.tup [.nm 0, .nm 1]]),
    .asg (.tup [7, 8]) (.tup [.call 1 false [.nm 0, .nm 1], .rev (.nm 0)]),
    .asg (.nm 5) (.bin .sub (.bi .len [.nm 0]) (.con (.int 1))),
    .asg (.nm 6) (.bi .tuple [.lc (.tup [10, 11]) (.ex (.nm 1)) [] [] (.tup [.bin .sub (.nm 5) (.nm 10), .ite (.cmp .is (.nm 11) (.con (.non))) (.con (.non)) (.bin .sub (.nm 5) (.nm 11))])]),
    .ite (.cmp .ne (.bi .repr [.lst [.nm 7, .callk 1 [.nm 1, .nm 0] [1, 0], .call 1 false [.nm 8, .nm 6]]]) (.bi .repr [.bin .mul (.lst [.nm 3]) (.con (.int 3))])) [
      .ret (.con (.bl false))] [],
    .ite (.cmp .ne (.lc (.nm 9) (.ex (.nm 2)) [.cmp .ne (.call 11 false [.nm 0, .nm 9]) (.bin .add (.call 11 false [.nm 7, .nm 9]) (.con (.int 1)))] [] (.nm 9)) (.lst [])) [
      .ret (.con (.bl false))] [],
    .ret (.cmp .eq (.bi .repr [.tup [.nm 0, .nm 1]]) (.nm 4))]⟩
/-- law(_law_script): 0=_law_script 1=_law_deck_here 2=_law_extras 3=_law_extra 4=_law_sets 5=_law_called_here 6=_law_own 7=_law_again 8=_law_k 9=_law_sign -/
def f13 : Pv.Fn := ⟨1, 10, false, [
    .asg (.nm 1) (.call 2 false [.nm 0]),
    .asg (.nm 2) (.lc (.nm 8) (.range (.con (.int 4))) [] [] (.call 3 true [.nm 1, .con (.int 4)])),
    .for_ (.nm 3) (.ex (.nm 2)) [
      .asg (.nm 4) (.call 8 true [.nm 1, .nm 3]),
      .asg (.nm 5) (.lst []),
      .for_ (.nm 6) (.ex (.nm 4)) [
        .asg (.nm 5) (.bin .add (.nm 5) (.lc (.nm 9) (.ex (.nm 6)) [.cmp .notin (.nm 9) (.nm 5)] [] (.nm 9)))],
      .for_ (.nm 7) (.range (.con (.int 3))) [
        .ite (.not (.call 12 false [.nm 4, .call 10 true [.nm 1, .nm 4], .nm 5])) [
          .ret (.con (.bl false))] []]],
    .ret (.con (.bl true))]⟩
def tbl : List Pv.Fn := [f0, f1, f2, f3, f4, f5, f6, f7, f8, f9, f10, f11, f12, f13]
def topS (i : Nat) : PySem.Stmt := PySem.Challenge.pw_sawpast_k10_cuts.main.body.getD i (.Pass ⟨0, 0, 0, 0⟩)
def G : Pv.Glb := ⟨["common", "cuts_of", "_law_deck", "_law_draw", "_law_pick", "_law_called", "_law_some", "_law_tree", "_law_eaten_sets", "_law_may_go", "_law_drawn_order", "_law_in", "_law_right", "law"], [⟨[.bor, .bor], 0⟩, ⟨[.bor, .own 0], 0⟩, ⟨[.scr], 2⟩, ⟨[.io 2, .own 0], 0⟩, ⟨[.io 2, .bor], 0⟩, ⟨[.io 2, .bor], 0⟩, ⟨[.io 2, .bor], 0⟩, ⟨[.io 2, .bor, .own 0], 1⟩, ⟨[.io 2, .bor], 0⟩, ⟨[.bor, .bor], 0⟩, ⟨[.io 2, .bor], 0⟩, ⟨[.bor, .bor], 0⟩, ⟨[.own 0, .own 0, .bor], 0⟩, ⟨[.scr], 0⟩], ["enumerate", "len", "list", "range", "repr", "sorted", "sum", "tuple"], [(1, ["order", "pattern"], 0, [1, 0])]⟩
def dfs : List Pv.Df := [
  ⟨"common", topS 1, ["one", "other", "sign"], ["one", "other"], [0, 0, 0]⟩,
  ⟨"cuts_of", topS 2, ["pattern", "order", "last", "pairs", "j", "k"], ["pattern", "order"], [0, 0, 0, 0, 0, 0]⟩,
  ⟨"_law_deck", topS 4, ["_law_script", "_law_cells", "_law_k", "_law_cell"], ["_law_script"], [0, 0, 0, 0]⟩,
  ⟨"_law_draw", topS 5, ["_law_deck_here", "_law_lots", "_law_cell", "_law_mixed"], ["_law_deck_here", "_law_lots"], [2, 0, 0, 0]⟩,
  ⟨"_law_pick", topS 6, ["_law_deck_here", "_law_some_here"], ["_law_deck_here", "_law_some_here"], [2, 0]⟩,
  ⟨"_law_called", topS 7, ["_law_deck_here", "_law_lots", "_law_abc", "_law_words", "_law_some_here", "_law_sort", "_law_first", "_law_k"], ["_law_deck_here", "_law_lots"], [2, 0, 0, 0, 0, 0, 0, 0]⟩,
  ⟨"_law_some", topS 8, ["_law_deck_here", "_law_some_here", "_law_left"], ["_law_deck_here", "_law_some_here"], [2, 0, 1]⟩,
  ⟨"_law_tree", topS 9, ["_law_deck_here", "_law_called_here", "_law_lots", "_law_fresh", "_law_sign", "_law_found", "_law_own", "_law_hangs", "_law_k"], ["_law_deck_here", "_law_called_here", "_law_lots"], [2, 0, 0, 2, 0, 1, 0, 0, 0]⟩,
  ⟨"_law_eaten_sets", topS 10, ["_law_deck_here", "_law_extra", "_law_found", "_law_fresh", "_law_lots", "_law_called_here", "_law_k"], ["_law_deck_here", "_law_extra"], [2, 0, 1, 0, 0, 0, 0]⟩,
  ⟨"_law_may_go", topS 11, ["_law_sets", "_law_left", "_law_found", "_law_j", "_law_others", "_law_shared", "_law_other", "_law_sign", "_law_k"], ["_law_sets", "_law_left"], [0, 0, 0, 0, 0, 0, 0, 0, 0]⟩,
  ⟨"_law_drawn_order", topS 12, ["_law_deck_here", "_law_sets", "_law_left", "_law_found", "_law_some_here", "_law_j", "_law_k"], ["_law_deck_here", "_law_sets"], [2, 0, 1, 1, 0, 0, 0]⟩,
  ⟨"_law_in", topS 13, ["_law_sets", "_law_sign", "_law_own"], ["_law_sets", "_law_sign"], [0, 0, 0]⟩,
  ⟨"_law_right", topS 14, ["_law_sets", "_law_one", "_law_called_here", "_law_due", "_law_kept", "_law_far", "_law_others", "_law_told", "_law_turned", "_law_sign", "_law_j", "_law_k"], ["_law_sets", "_law_one", "_law_called_here"], [0, 0, 0, 0, 0, 0, 0, 0, 0, 0, 0, 0]⟩,
  ⟨"law", topS 15, ["_law_script", "_law_deck_here", "_law_extras", "_law_extra", "_law_sets", "_law_called_here", "_law_own", "_law_again", "_law_k", "_law_sign"], ["_law_script"], [0, 2, 0, 0, 0, 0, 0, 0, 0, 0]⟩]
end K10
end

section
set_option Elab.async false
set_option linter.all false
set_option maxRecDepth 100000
set_option maxHeartbeats 4000000
/-! K10C: what the defs tell that draw nothing: common, cuts_of, _law_in, _law_may_go. -/
namespace K10
open Pv Gyo
open L2 (ixN)
def tS (s : List Tx) : T := .tup (s.map .str)
def tSets (S : List (List Tx)) : T := .tup (S.map tS)
def tPair (p : Nat × Nat) : T := .tup [.int (p.1 : Int), .int (p.2 : Int)]
def com (a b : List Tx) : List Tx := a.filter fun s => decide (s ∈ b)
theorem common {n : Nat} {a b : List Tx} {P : T → Option T → Prop} (ha : a.length ≤ 1000000) (h : P (tS (com a b)) none) : wK (callN tbl (n + 1)) 0 [tS a, tS b] P := by
  refine wK_fn (d := f0) rfl rfl ?_
  unfold f0 tS
  simp only [wB_cons, wB_nil, wS_asg, wS_par, wS_setix, wS_aug, wS_expr, wS_ret, wS_ite, wS_frz, wE_nm, wE_con, wE_bin, wE_neg, wE_cmp, wE_and, wE_or, wE_not, wE_ite, wE_tup, wE_lst, wE_ix, wE_sl, wE_rev, wE_call, wE_callio, wE_callk, wE_bi, wE_lrg, wE_pop, wE_popp, wE_app, wE_appp, wE_rem, wE_ixs, wE_dne, wEs_nil, wEs_cons, wO_none, wO_some, wI_ex, wI_enum, wI_range, wC_nil, wC_cons, wp_some, wp_map, getV_zero, getV_succ, opT, biT, cmpT, wp_add_int, wp_add_lst, wp_add_tup, wp_add_str, wp_sub_int, wp_mul_int, wp_mul_lst, wp_mul_str, wp_fdiv, wp_mod, wp_pow, wp_len_lst, wp_len_tup, wp_list_lst, wp_list_tup, wp_tuple_lst, wp_tuple_tup, wp_rev_lst, wp_rev_tup, wp_sl_lst, wp_sl_tup, wp_neg, wp_listOf, wp_intOf, wp_iter_lst, wp_iter_tup, wp_lt_int, wp_gt_int, wp_le_int, wp_ge_int, bind_nm, bind_tup, set_nil, set_cons, List.set_cons_zero, List.set_cons_succ, List.map_cons, List.map_nil, List.cons_append, List.nil_append, List.replicate, ne_eq, not_true_eq_false, not_false_eq_true, true_implies, false_implies, true_and, and_true, reduceCtorEq, truth, decide_eq_true_eq, endOf, ix1_0, ix2_0, ix2_1, ix3_0, ix3_1, ix3_2, mut_int, List.length_cons, List.length_nil, Nat.reduceAdd, Nat.zero_add, List.getElem?_cons_zero, List.getElem?_cons_succ, ↓reduceIte, Option.getD_none, Option.getD_some, Bool.not_false, Bool.not_true, Bool.false_eq_true, true_or, or_true, implies_true, forall_const, Option.map_some]
  refine wE_lcm a T.str (fun s => decide (s ∈ b)) T.str ?_
  simp only [wB_cons, wB_nil, wS_asg, wS_par, wS_setix, wS_aug, wS_expr, wS_ret, wS_ite, wS_frz, wE_nm, wE_con, wE_bin, wE_neg, wE_cmp, wE_and, wE_or, wE_not, wE_ite, wE_tup, wE_lst, wE_ix, wE_sl, wE_rev, wE_call, wE_callio, wE_callk, wE_bi, wE_lrg, wE_pop, wE_popp, wE_app, wE_appp, wE_rem, wE_ixs, wE_dne, wEs_nil, wEs_cons, wO_none, wO_some, wI_ex, wI_enum, wI_range, wC_nil, wC_cons, wp_some, wp_map, getV_zero, getV_succ, opT, biT, cmpT, wp_add_int, wp_add_lst, wp_add_tup, wp_add_str, wp_sub_int, wp_mul_int, wp_mul_lst, wp_mul_str, wp_fdiv, wp_mod, wp_pow, wp_len_lst, wp_len_tup, wp_list_lst, wp_list_tup, wp_tuple_lst, wp_tuple_tup, wp_rev_lst, wp_rev_tup, wp_sl_lst, wp_sl_tup, wp_neg, wp_listOf, wp_intOf, wp_iter_lst, wp_iter_tup, wp_lt_int, wp_gt_int, wp_le_int, wp_ge_int, bind_nm, bind_tup, set_nil, set_cons, List.set_cons_zero, List.set_cons_succ, List.map_cons, List.map_nil, List.cons_append, List.nil_append, List.replicate, ne_eq, not_true_eq_false, not_false_eq_true, true_implies, false_implies, true_and, and_true, reduceCtorEq, truth, decide_eq_true_eq, endOf, ix1_0, ix2_0, ix2_1, ix3_0, ix3_1, ix3_2, mut_int, List.length_cons, List.length_nil, Nat.reduceAdd, Nat.zero_add, List.getElem?_cons_zero, List.getElem?_cons_succ, ↓reduceIte, Option.getD_none, Option.getD_some, Bool.not_false, Bool.not_true, Bool.false_eq_true, true_or, or_true, implies_true, forall_const, Option.map_some, Pat.slots, wipeE, wp_in_strt]
  exact ⟨fun s _ => ⟨fun z => by simp [z], fun z => by simp [z]⟩, ha, h⟩
/-- S at i, told -/
theorem ix_sets {Q : T → Prop} {S : List (List Tx)} {i : Nat} (hi : i < S.length) (q : Q (tS (at_ S i))) : wp (ixT (tSets S) (.int (i : Int))) Q := by
  refine wp_ix_tup (l := S.map tS) (k := i) ?_ q
  rw [List.getElem?_map, List.getElem?_eq_getElem hi]
  simp [at_, hi]
theorem ix_iff {Q : T → Prop} {S : List (List Tx)} {i : Nat} (hi : i < S.length) : wp (ixT (tSets S) (.int (i : Int))) Q ↔ Q (tS (at_ S i)) := by
  obtain ⟨t, e, q⟩ := ix_sets (Q := fun t => t = tS (at_ S i)) hi rfl
  rw [e, wp_some, q]
theorem wp_iter_tS {g : List Tx} {P : List T → Prop} : wp (iterT (tS g)) P ↔ P (g.map .str) := wp_some
theorem in_tS {x : Tx} {g : List Tx} {P : Bool → Prop} : wp (inT (.str x) (tS g)) P ↔ P (decide (x ∈ g)) := wp_in_strt
theorem at_len {S : List (List Tx)} {i m : Nat} (h : ∀ g ∈ S, g.length ≤ m) : (at_ S i).length ≤ m := by
  unfold at_
  rw [List.getD_eq_getElem?_getD]
  rcases Nat.lt_or_ge i S.length with lt | ge
  · rw [List.getElem?_eq_getElem lt]; exact h _ (List.getElem_mem lt)
  · rw [List.getElem?_eq_none ge]; exact Nat.zero_le _
theorem pl_ones {α : Type} {l : List α} : Ts.pl (l.map fun _ => T.int 1) = true := pl_map fun _ _ => rfl
def others (left : List Nat) (j : Nat) : List Nat := left.filter fun k => !decide ((k : Int) = (j : Int))
def shared (S : List (List Tx)) (left : List Nat) (j : Nat) : List Tx := (at_ S j).filter fun s => !((others left j).filter fun o => decide (s ∈ at_ S o)).isEmpty
def goes (S : List (List Tx)) (left : List Nat) (j : Nat) : List Nat := (others left j).filter fun k => ((shared S left j).filter fun s => !decide (s ∈ at_ S k)).isEmpty
def mg (S : List (List Tx)) (left : List Nat) : List (Nat × Nat) := left.flatMap fun j => (goes S left j).map fun k => (j, k)
def mgd (S : List (List Tx)) (left done : List Nat) : List (Nat × Nat) := done.flatMap fun j => (goes S left j).map fun k => (j, k)
theorem mem_others {left : List Nat} {j k : Nat} : k ∈ others left j ↔ k ∈ left ∧ k ≠ j := by
  unfold others
  rw [List.mem_filter]
  simp
  intro _
  omega
theorem mem_shared {S : List (List Tx)} {left : List Nat} {j : Nat} {s : Tx} : s ∈ shared S left j ↔ s ∈ at_ S j ∧ ∃ o ∈ left, o ≠ j ∧ s ∈ at_ S o := by
  unfold shared
  rw [List.mem_filter]
  simp only [Bool.not_eq_true', List.isEmpty_eq_false_iff_exists_mem, List.mem_filter, decide_eq_true_eq, mem_others]
  constructor
  · rintro ⟨h, o, ⟨h1, h2⟩, h3⟩
    exact ⟨h, o, h1, h2, h3⟩
  · rintro ⟨h, o, h1, h2, h3⟩
    exact ⟨h, o, ⟨h1, h2⟩, h3⟩
theorem mem_mg {S : List (List Tx)} {left : List Nat} {j k : Nat} : (j, k) ∈ mg S left ↔ May S left j k := by
  unfold mg goes May
  rw [List.mem_flatMap]
  simp only [List.mem_map, List.mem_filter, List.isEmpty_iff, List.filter_eq_nil_iff, mem_others, mem_shared, Prod.mk.injEq]
  constructor
  · rintro ⟨a, ha, b, ⟨⟨hb, ba⟩, h⟩, rfl, rfl⟩
    exact ⟨ha, hb, ba, fun s hs ho => by simpa using h s ⟨hs, ho⟩⟩
  · rintro ⟨ha, hb, ba, h⟩
    exact ⟨j, ha, k, ⟨⟨hb, ba⟩, fun s hs => by simpa using h s hs.1 hs.2⟩, rfl, rfl⟩
theorem mgd_snoc {S : List (List Tx)} {left done : List Nat} {j : Nat} : mgd S left (done ++ [j]) = mgd S left done ++ (goes S left j).map fun k => (j, k) := by
  unfold mgd
  rw [List.flatMap_append]
  simp
theorem mgd_len {S : List (List Tx)} {left : List Nat} (hl : left.length ≤ 9) : ∀ done : List Nat, (mgd S left done).length ≤ done.length * 9
  | [] => Nat.le_refl _
  | j :: done => by
    have h1 : (mgd S left (j :: done)).length = (goes S left j).length + (mgd S left done).length := by
      unfold mgd
      rw [List.flatMap_cons, List.length_append, List.length_map]
    have h2 : (goes S left j).length ≤ 9 := Nat.le_trans (List.length_filter_le _ _) (Nat.le_trans (List.length_filter_le _ _) hl)
    have h3 := mgd_len (S := S) hl done
    rw [h1, List.length_cons, Nat.add_mul]
    omega
/-- _law_may_go -/
theorem may_go {n : Nat} {S : List (List Tx)} {left : List Nat} {P : T → Option T → Prop} (hl : left.length ≤ 9) (hi : ∀ i ∈ left, i < S.length) (hS : ∀ g ∈ S, g.length ≤ 100) (h : P (.lst ((mg S left).map tPair)) none) : wK (callN tbl (n + 1)) 9 [tSets S, .lst (left.map (fun k : Nat => T.int (k : Int)))] P := by
  refine wK_fn (d := f9) rfl rfl ?_
  unfold f9
  simp only [wB_cons, wB_nil, wS_asg, wS_par, wS_setix, wS_aug, wS_expr, wS_ret, wS_ite, wS_frz, wE_nm, wE_con, wE_bin, wE_neg, wE_cmp, wE_and, wE_or, wE_not, wE_ite, wE_tup, wE_lst, wE_ix, wE_sl, wE_rev, wE_call, wE_callio, wE_callk, wE_bi, wE_lrg, wE_pop, wE_popp, wE_app, wE_appp, wE_rem, wE_ixs, wE_dne, wEs_nil, wEs_cons, wO_none, wO_some, wI_ex, wI_enum, wI_range, wC_nil, wC_cons, wp_some, wp_map, getV_zero, getV_succ, opT, biT, cmpT, wp_add_int, wp_add_lst, wp_add_tup, wp_add_str, wp_sub_int, wp_mul_int, wp_mul_lst, wp_mul_str, wp_fdiv, wp_mod, wp_pow, wp_len_lst, wp_len_tup, wp_list_lst, wp_list_tup, wp_tuple_lst, wp_tuple_tup, wp_rev_lst, wp_rev_tup, wp_sl_lst, wp_sl_tup, wp_neg, wp_listOf, wp_intOf, wp_iter_lst, wp_iter_tup, wp_lt_int, wp_gt_int, wp_le_int, wp_ge_int, bind_nm, bind_tup, set_nil, set_cons, List.set_cons_zero, List.set_cons_succ, List.map_cons, List.map_nil, List.cons_append, List.nil_append, List.replicate, ne_eq, not_true_eq_false, not_false_eq_true, true_implies, false_implies, true_and, and_true, reduceCtorEq, truth, decide_eq_true_eq, endOf, ix1_0, ix2_0, ix2_1, ix3_0, ix3_1, ix3_2, mut_int, List.length_cons, List.length_nil, Nat.reduceAdd, Nat.zero_add, List.getElem?_cons_zero, List.getElem?_cons_succ, ↓reduceIte, Option.getD_none, Option.getD_some, Bool.not_false, Bool.not_true, Bool.false_eq_true, true_or, or_true, implies_true, forall_const, Option.map_some]
  refine wS_form left (fun k : Nat => T.int (k : Int)) (fun done e => ∃ x3 x4 x5, e = [some (tSets S), some (.lst (left.map (fun k : Nat => T.int (k : Int)))), some (.lst ((mgd S left done).map tPair)), x3, x4, x5, none, none, none]) ?_
  simp only [wB_cons, wB_nil, wS_asg, wS_par, wS_setix, wS_aug, wS_expr, wS_ret, wS_ite, wS_frz, wE_nm, wE_con, wE_bin, wE_neg, wE_cmp, wE_and, wE_or, wE_not, wE_ite, wE_tup, wE_lst, wE_ix, wE_sl, wE_rev, wE_call, wE_callio, wE_callk, wE_bi, wE_lrg, wE_pop, wE_popp, wE_app, wE_appp, wE_rem, wE_ixs, wE_dne, wEs_nil, wEs_cons, wO_none, wO_some, wI_ex, wI_enum, wI_range, wC_nil, wC_cons, wp_some, wp_map, getV_zero, getV_succ, opT, biT, cmpT, wp_add_int, wp_add_lst, wp_add_tup, wp_add_str, wp_sub_int, wp_mul_int, wp_mul_lst, wp_mul_str, wp_fdiv, wp_mod, wp_pow, wp_len_lst, wp_len_tup, wp_list_lst, wp_list_tup, wp_tuple_lst, wp_tuple_tup, wp_rev_lst, wp_rev_tup, wp_sl_lst, wp_sl_tup, wp_neg, wp_listOf, wp_intOf, wp_iter_lst, wp_iter_tup, wp_lt_int, wp_gt_int, wp_le_int, wp_ge_int, bind_nm, bind_tup, set_nil, set_cons, List.set_cons_zero, List.set_cons_succ, List.map_cons, List.map_nil, List.cons_append, List.nil_append, List.replicate, ne_eq, not_true_eq_false, not_false_eq_true, true_implies, false_implies, true_and, and_true, reduceCtorEq, truth, decide_eq_true_eq, endOf, ix1_0, ix2_0, ix2_1, ix3_0, ix3_1, ix3_2, mut_int, List.length_cons, List.length_nil, Nat.reduceAdd, Nat.zero_add, List.getElem?_cons_zero, List.getElem?_cons_succ, ↓reduceIte, Option.getD_none, Option.getD_some, Bool.not_false, Bool.not_true, Bool.false_eq_true, true_or, or_true, implies_true, forall_const, Option.map_some]
  refine ⟨⟨_, _, _, rfl⟩, ?_, ?_⟩
  · rintro j done rest e el ⟨x3, x4, x5, rfl⟩
    simp only [wB_cons, wB_nil, wS_asg, wS_par, wS_setix, wS_aug, wS_expr, wS_ret, wS_ite, wS_frz, wE_nm, wE_con, wE_bin, wE_neg, wE_cmp, wE_and, wE_or, wE_not, wE_ite, wE_tup, wE_lst, wE_ix, wE_sl, wE_rev, wE_call, wE_callio, wE_callk, wE_bi, wE_lrg, wE_pop, wE_popp, wE_app, wE_appp, wE_rem, wE_ixs, wE_dne, wEs_nil, wEs_cons, wO_none, wO_some, wI_ex, wI_enum, wI_range, wC_nil, wC_cons, wp_some, wp_map, getV_zero, getV_succ, opT, biT, cmpT, wp_add_int, wp_add_lst, wp_add_tup, wp_add_str, wp_sub_int, wp_mul_int, wp_mul_lst, wp_mul_str, wp_fdiv, wp_mod, wp_pow, wp_len_lst, wp_len_tup, wp_list_lst, wp_list_tup, wp_tuple_lst, wp_tuple_tup, wp_rev_lst, wp_rev_tup, wp_sl_lst, wp_sl_tup, wp_neg, wp_listOf, wp_intOf, wp_iter_lst, wp_iter_tup, wp_lt_int, wp_gt_int, wp_le_int, wp_ge_int, bind_nm, bind_tup, set_nil, set_cons, List.set_cons_zero, List.set_cons_succ, List.map_cons, List.map_nil, List.cons_append, List.nil_append, List.replicate, ne_eq, not_true_eq_false, not_false_eq_true, true_implies, false_implies, true_and, and_true, reduceCtorEq, truth, decide_eq_true_eq, endOf, ix1_0, ix2_0, ix2_1, ix3_0, ix3_1, ix3_2, mut_int, List.length_cons, List.length_nil, Nat.reduceAdd, Nat.zero_add, List.getElem?_cons_zero, List.getElem?_cons_succ, ↓reduceIte, Option.getD_none, Option.getD_some, Bool.not_false, Bool.not_true, Bool.false_eq_true, true_or, or_true, implies_true, forall_const, Option.map_some]
    refine wE_lcm left (fun k : Nat => T.int (k : Int)) (fun k => !decide ((k : Int) = (j : Int))) (fun k : Nat => T.int (k : Int)) ?_
    simp only [wB_cons, wB_nil, wS_asg, wS_par, wS_setix, wS_aug, wS_expr, wS_ret, wS_ite, wS_frz, wE_nm, wE_con, wE_bin, wE_neg, wE_cmp, wE_and, wE_or, wE_not, wE_ite, wE_tup, wE_lst, wE_ix, wE_sl, wE_rev, wE_call, wE_callio, wE_callk, wE_bi, wE_lrg, wE_pop, wE_popp, wE_app, wE_appp, wE_rem, wE_ixs, wE_dne, wEs_nil, wEs_cons, wO_none, wO_some, wI_ex, wI_enum, wI_range, wC_nil, wC_cons, wp_some, wp_map, getV_zero, getV_succ, opT, biT, cmpT, wp_add_int, wp_add_lst, wp_add_tup, wp_add_str, wp_sub_int, wp_mul_int, wp_mul_lst, wp_mul_str, wp_fdiv, wp_mod, wp_pow, wp_len_lst, wp_len_tup, wp_list_lst, wp_list_tup, wp_tuple_lst, wp_tuple_tup, wp_rev_lst, wp_rev_tup, wp_sl_lst, wp_sl_tup, wp_neg, wp_listOf, wp_intOf, wp_iter_lst, wp_iter_tup, wp_lt_int, wp_gt_int, wp_le_int, wp_ge_int, bind_nm, bind_tup, set_nil, set_cons, List.set_cons_zero, List.set_cons_succ, List.map_cons, List.map_nil, List.cons_append, List.nil_append, List.replicate, ne_eq, not_true_eq_false, not_false_eq_true, true_implies, false_implies, true_and, and_true, reduceCtorEq, truth, decide_eq_true_eq, endOf, ix1_0, ix2_0, ix2_1, ix3_0, ix3_1, ix3_2, mut_int, List.length_cons, List.length_nil, Nat.reduceAdd, Nat.zero_add, List.getElem?_cons_zero, List.getElem?_cons_succ, ↓reduceIte, Option.getD_none, Option.getD_some, Bool.not_false, Bool.not_true, Bool.false_eq_true, true_or, or_true, implies_true, forall_const, Option.map_some, Pat.slots, wipeE, wp_eq_int]
    refine ⟨fun k _ => ?_, Nat.le_trans hl (by decide), ?_⟩
    · by_cases z : (k : Int) = (j : Int) <;> simp [z]
    have eo : List.filter (fun k : Nat => !decide ((k : Int) = (j : Int))) left = others left j := rfl
    have hj : j < S.length := hi j (by rw [el]; simp)
    have ho : ∀ o ∈ others left j, o < S.length := fun o h => hi o (mem_others.mp h).1
    have hol : (others left j).length ≤ 9 := Nat.le_trans (List.length_filter_le _ _) hl
    have hal : (at_ S j).length ≤ 100 := at_len hS
    rw [eo]
    refine wE_lcm (at_ S j) T.str (fun s => !((others left j).filter fun o => decide (s ∈ at_ S o)).isEmpty) T.str ?_
    simp only [wB_cons, wB_nil, wS_asg, wS_par, wS_setix, wS_aug, wS_expr, wS_ret, wS_ite, wS_frz, wE_nm, wE_con, wE_bin, wE_neg, wE_cmp, wE_and, wE_or, wE_not, wE_ite, wE_tup, wE_lst, wE_ix, wE_sl, wE_rev, wE_call, wE_callio, wE_callk, wE_bi, wE_lrg, wE_pop, wE_popp, wE_app, wE_appp, wE_rem, wE_ixs, wE_dne, wEs_nil, wEs_cons, wO_none, wO_some, wI_ex, wI_enum, wI_range, wC_nil, wC_cons, wp_some, wp_map, getV_zero, getV_succ, opT, biT, cmpT, wp_add_int, wp_add_lst, wp_add_tup, wp_add_str, wp_sub_int, wp_mul_int, wp_mul_lst, wp_mul_str, wp_fdiv, wp_mod, wp_pow, wp_len_lst, wp_len_tup, wp_list_lst, wp_list_tup, wp_tuple_lst, wp_tuple_tup, wp_rev_lst, wp_rev_tup, wp_sl_lst, wp_sl_tup, wp_neg, wp_listOf, wp_intOf, wp_iter_lst, wp_iter_tup, wp_lt_int, wp_gt_int, wp_le_int, wp_ge_int, bind_nm, bind_tup, set_nil, set_cons, List.set_cons_zero, List.set_cons_succ, List.map_cons, List.map_nil, List.cons_append, List.nil_append, List.replicate, ne_eq, not_true_eq_false, not_false_eq_true, true_implies, false_implies, true_and, and_true, reduceCtorEq, truth, decide_eq_true_eq, endOf, ix1_0, ix2_0, ix2_1, ix3_0, ix3_1, ix3_2, mut_int, List.length_cons, List.length_nil, Nat.reduceAdd, Nat.zero_add, List.getElem?_cons_zero, List.getElem?_cons_succ, ↓reduceIte, Option.getD_none, Option.getD_some, Bool.not_false, Bool.not_true, Bool.false_eq_true, true_or, or_true, implies_true, forall_const, Option.map_some, Pat.slots, wipeE, wp_eq_int, ix_iff hj, wp_iter_tS]
    refine ⟨fun s hs => ?_, Nat.le_trans hal (by decide), ?_⟩
    · refine wE_lcm (others left j) (fun k : Nat => T.int (k : Int)) (fun o => decide (s ∈ at_ S o)) (fun _ => .int 1) ?_
      simp only [wB_cons, wB_nil, wS_asg, wS_par, wS_setix, wS_aug, wS_expr, wS_ret, wS_ite, wS_frz, wE_nm, wE_con, wE_bin, wE_neg, wE_cmp, wE_and, wE_or, wE_not, wE_ite, wE_tup, wE_lst, wE_ix, wE_sl, wE_rev, wE_call, wE_callio, wE_callk, wE_bi, wE_lrg, wE_pop, wE_popp, wE_app, wE_appp, wE_rem, wE_ixs, wE_dne, wEs_nil, wEs_cons, wO_none, wO_some, wI_ex, wI_enum, wI_range, wC_nil, wC_cons, wp_some, wp_map, getV_zero, getV_succ, opT, biT, cmpT, wp_add_int, wp_add_lst, wp_add_tup, wp_add_str, wp_sub_int, wp_mul_int, wp_mul_lst, wp_mul_str, wp_fdiv, wp_mod, wp_pow, wp_len_lst, wp_len_tup, wp_list_lst, wp_list_tup, wp_tuple_lst, wp_tuple_tup, wp_rev_lst, wp_rev_tup, wp_sl_lst, wp_sl_tup, wp_neg, wp_listOf, wp_intOf, wp_iter_lst, wp_iter_tup, wp_lt_int, wp_gt_int, wp_le_int, wp_ge_int, bind_nm, bind_tup, set_nil, set_cons, List.set_cons_zero, List.set_cons_succ, List.map_cons, List.map_nil, List.cons_append, List.nil_append, List.replicate, ne_eq, not_true_eq_false, not_false_eq_true, true_implies, false_implies, true_and, and_true, reduceCtorEq, truth, decide_eq_true_eq, endOf, ix1_0, ix2_0, ix2_1, ix3_0, ix3_1, ix3_2, mut_int, List.length_cons, List.length_nil, Nat.reduceAdd, Nat.zero_add, List.getElem?_cons_zero, List.getElem?_cons_succ, ↓reduceIte, Option.getD_none, Option.getD_some, Bool.not_false, Bool.not_true, Bool.false_eq_true, true_or, or_true, implies_true, forall_const, Option.map_some, Pat.slots, wipeE]
      refine ⟨fun o h => ?_, Nat.le_trans hol (by decide), ?_⟩
      · simp only [wB_cons, wB_nil, wS_asg, wS_par, wS_setix, wS_aug, wS_expr, wS_ret, wS_ite, wS_frz, wE_nm, wE_con, wE_bin, wE_neg, wE_cmp, wE_and, wE_or, wE_not, wE_ite, wE_tup, wE_lst, wE_ix, wE_sl, wE_rev, wE_call, wE_callio, wE_callk, wE_bi, wE_lrg, wE_pop, wE_popp, wE_app, wE_appp, wE_rem, wE_ixs, wE_dne, wEs_nil, wEs_cons, wO_none, wO_some, wI_ex, wI_enum, wI_range, wC_nil, wC_cons, wp_some, wp_map, getV_zero, getV_succ, opT, biT, cmpT, wp_add_int, wp_add_lst, wp_add_tup, wp_add_str, wp_sub_int, wp_mul_int, wp_mul_lst, wp_mul_str, wp_fdiv, wp_mod, wp_pow, wp_len_lst, wp_len_tup, wp_list_lst, wp_list_tup, wp_tuple_lst, wp_tuple_tup, wp_rev_lst, wp_rev_tup, wp_sl_lst, wp_sl_tup, wp_neg, wp_listOf, wp_intOf, wp_iter_lst, wp_iter_tup, wp_lt_int, wp_gt_int, wp_le_int, wp_ge_int, bind_nm, bind_tup, set_nil, set_cons, List.set_cons_zero, List.set_cons_succ, List.map_cons, List.map_nil, List.cons_append, List.nil_append, List.replicate, ne_eq, not_true_eq_false, not_false_eq_true, true_implies, false_implies, true_and, and_true, reduceCtorEq, truth, decide_eq_true_eq, endOf, ix1_0, ix2_0, ix2_1, ix3_0, ix3_1, ix3_2, mut_int, List.length_cons, List.length_nil, Nat.reduceAdd, Nat.zero_add, List.getElem?_cons_zero, List.getElem?_cons_succ, ↓reduceIte, Option.getD_none, Option.getD_some, Bool.not_false, Bool.not_true, Bool.false_eq_true, true_or, or_true, implies_true, forall_const, Option.map_some, ix_iff (ho o h), in_tS]
        by_cases z : s ∈ at_ S o <;> simp [z]
      · simp only [wB_cons, wB_nil, wS_asg, wS_par, wS_setix, wS_aug, wS_expr, wS_ret, wS_ite, wS_frz, wE_nm, wE_con, wE_bin, wE_neg, wE_cmp, wE_and, wE_or, wE_not, wE_ite, wE_tup, wE_lst, wE_ix, wE_sl, wE_rev, wE_call, wE_callio, wE_callk, wE_bi, wE_lrg, wE_pop, wE_popp, wE_app, wE_appp, wE_rem, wE_ixs, wE_dne, wEs_nil, wEs_cons, wO_none, wO_some, wI_ex, wI_enum, wI_range, wC_nil, wC_cons, wp_some, wp_map, getV_zero, getV_succ, opT, biT, cmpT, wp_add_int, wp_add_lst, wp_add_tup, wp_add_str, wp_sub_int, wp_mul_int, wp_mul_lst, wp_mul_str, wp_fdiv, wp_mod, wp_pow, wp_len_lst, wp_len_tup, wp_list_lst, wp_list_tup, wp_tuple_lst, wp_tuple_tup, wp_rev_lst, wp_rev_tup, wp_sl_lst, wp_sl_tup, wp_neg, wp_listOf, wp_intOf, wp_iter_lst, wp_iter_tup, wp_lt_int, wp_gt_int, wp_le_int, wp_ge_int, bind_nm, bind_tup, set_nil, set_cons, List.set_cons_zero, List.set_cons_succ, List.map_cons, List.map_nil, List.cons_append, List.nil_append, List.replicate, ne_eq, not_true_eq_false, not_false_eq_true, true_implies, false_implies, true_and, and_true, reduceCtorEq, truth, decide_eq_true_eq, endOf, ix1_0, ix2_0, ix2_1, ix3_0, ix3_1, ix3_2, mut_int, List.length_cons, List.length_nil, Nat.reduceAdd, Nat.zero_add, List.getElem?_cons_zero, List.getElem?_cons_succ, ↓reduceIte, Option.getD_none, Option.getD_some, Bool.not_false, Bool.not_true, Bool.false_eq_true, true_or, or_true, implies_true, forall_const, Option.map_some, wp_eq_nil, pl_ones, List.isEmpty_map]
        by_cases z : (List.filter (fun o => decide (s ∈ at_ S o)) (others left j)).isEmpty = true <;> simp [z]
    have es : List.filter (fun s => !((others left j).filter fun o => decide (s ∈ at_ S o)).isEmpty) (at_ S j) = shared S left j := rfl
    rw [es]
    refine wE_lcm (others left j) (fun k : Nat => T.int (k : Int)) (fun k => ((shared S left j).filter fun s => !decide (s ∈ at_ S k)).isEmpty) (fun k => tPair (j, k)) ?_
    simp only [wB_cons, wB_nil, wS_asg, wS_par, wS_setix, wS_aug, wS_expr, wS_ret, wS_ite, wS_frz, wE_nm, wE_con, wE_bin, wE_neg, wE_cmp, wE_and, wE_or, wE_not, wE_ite, wE_tup, wE_lst, wE_ix, wE_sl, wE_rev, wE_call, wE_callio, wE_callk, wE_bi, wE_lrg, wE_pop, wE_popp, wE_app, wE_appp, wE_rem, wE_ixs, wE_dne, wEs_nil, wEs_cons, wO_none, wO_some, wI_ex, wI_enum, wI_range, wC_nil, wC_cons, wp_some, wp_map, getV_zero, getV_succ, opT, biT, cmpT, wp_add_int, wp_add_lst, wp_add_tup, wp_add_str, wp_sub_int, wp_mul_int, wp_mul_lst, wp_mul_str, wp_fdiv, wp_mod, wp_pow, wp_len_lst, wp_len_tup, wp_list_lst, wp_list_tup, wp_tuple_lst, wp_tuple_tup, wp_rev_lst, wp_rev_tup, wp_sl_lst, wp_sl_tup, wp_neg, wp_listOf, wp_intOf, wp_iter_lst, wp_iter_tup, wp_lt_int, wp_gt_int, wp_le_int, wp_ge_int, bind_nm, bind_tup, set_nil, set_cons, List.set_cons_zero, List.set_cons_succ, List.map_cons, List.map_nil, List.cons_append, List.nil_append, List.replicate, ne_eq, not_true_eq_false, not_false_eq_true, true_implies, false_implies, true_and, and_true, reduceCtorEq, truth, decide_eq_true_eq, endOf, ix1_0, ix2_0, ix2_1, ix3_0, ix3_1, ix3_2, mut_int, List.length_cons, List.length_nil, Nat.reduceAdd, Nat.zero_add, List.getElem?_cons_zero, List.getElem?_cons_succ, ↓reduceIte, Option.getD_none, Option.getD_some, Bool.not_false, Bool.not_true, Bool.false_eq_true, true_or, or_true, implies_true, forall_const, Option.map_some, Pat.slots, wipeE]
    have hsl : (shared S left j).length ≤ 100 := Nat.le_trans (List.length_filter_le _ _) hal
    refine ⟨fun k h => ?_, Nat.le_trans hol (by decide), ?_⟩
    · refine wE_lcm (shared S left j) T.str (fun s => !decide (s ∈ at_ S k)) T.str ?_
      simp only [wB_cons, wB_nil, wS_asg, wS_par, wS_setix, wS_aug, wS_expr, wS_ret, wS_ite, wS_frz, wE_nm, wE_con, wE_bin, wE_neg, wE_cmp, wE_and, wE_or, wE_not, wE_ite, wE_tup, wE_lst, wE_ix, wE_sl, wE_rev, wE_call, wE_callio, wE_callk, wE_bi, wE_lrg, wE_pop, wE_popp, wE_app, wE_appp, wE_rem, wE_ixs, wE_dne, wEs_nil, wEs_cons, wO_none, wO_some, wI_ex, wI_enum, wI_range, wC_nil, wC_cons, wp_some, wp_map, getV_zero, getV_succ, opT, biT, cmpT, wp_add_int, wp_add_lst, wp_add_tup, wp_add_str, wp_sub_int, wp_mul_int, wp_mul_lst, wp_mul_str, wp_fdiv, wp_mod, wp_pow, wp_len_lst, wp_len_tup, wp_list_lst, wp_list_tup, wp_tuple_lst, wp_tuple_tup, wp_rev_lst, wp_rev_tup, wp_sl_lst, wp_sl_tup, wp_neg, wp_listOf, wp_intOf, wp_iter_lst, wp_iter_tup, wp_lt_int, wp_gt_int, wp_le_int, wp_ge_int, bind_nm, bind_tup, set_nil, set_cons, List.set_cons_zero, List.set_cons_succ, List.map_cons, List.map_nil, List.cons_append, List.nil_append, List.replicate, ne_eq, not_true_eq_false, not_false_eq_true, true_implies, false_implies, true_and, and_true, reduceCtorEq, truth, decide_eq_true_eq, endOf, ix1_0, ix2_0, ix2_1, ix3_0, ix3_1, ix3_2, mut_int, List.length_cons, List.length_nil, Nat.reduceAdd, Nat.zero_add, List.getElem?_cons_zero, List.getElem?_cons_succ, ↓reduceIte, Option.getD_none, Option.getD_some, Bool.not_false, Bool.not_true, Bool.false_eq_true, true_or, or_true, implies_true, forall_const, Option.map_some, Pat.slots, wipeE]
      refine ⟨fun s h' => ?_, Nat.le_trans hsl (by decide), ?_⟩
      · simp only [wB_cons, wB_nil, wS_asg, wS_par, wS_setix, wS_aug, wS_expr, wS_ret, wS_ite, wS_frz, wE_nm, wE_con, wE_bin, wE_neg, wE_cmp, wE_and, wE_or, wE_not, wE_ite, wE_tup, wE_lst, wE_ix, wE_sl, wE_rev, wE_call, wE_callio, wE_callk, wE_bi, wE_lrg, wE_pop, wE_popp, wE_app, wE_appp, wE_rem, wE_ixs, wE_dne, wEs_nil, wEs_cons, wO_none, wO_some, wI_ex, wI_enum, wI_range, wC_nil, wC_cons, wp_some, wp_map, getV_zero, getV_succ, opT, biT, cmpT, wp_add_int, wp_add_lst, wp_add_tup, wp_add_str, wp_sub_int, wp_mul_int, wp_mul_lst, wp_mul_str, wp_fdiv, wp_mod, wp_pow, wp_len_lst, wp_len_tup, wp_list_lst, wp_list_tup, wp_tuple_lst, wp_tuple_tup, wp_rev_lst, wp_rev_tup, wp_sl_lst, wp_sl_tup, wp_neg, wp_listOf, wp_intOf, wp_iter_lst, wp_iter_tup, wp_lt_int, wp_gt_int, wp_le_int, wp_ge_int, bind_nm, bind_tup, set_nil, set_cons, List.set_cons_zero, List.set_cons_succ, List.map_cons, List.map_nil, List.cons_append, List.nil_append, List.replicate, ne_eq, not_true_eq_false, not_false_eq_true, true_implies, false_implies, true_and, and_true, reduceCtorEq, truth, decide_eq_true_eq, endOf, ix1_0, ix2_0, ix2_1, ix3_0, ix3_1, ix3_2, mut_int, List.length_cons, List.length_nil, Nat.reduceAdd, Nat.zero_add, List.getElem?_cons_zero, List.getElem?_cons_succ, ↓reduceIte, Option.getD_none, Option.getD_some, Bool.not_false, Bool.not_true, Bool.false_eq_true, true_or, or_true, implies_true, forall_const, Option.map_some, ix_iff (ho k h), in_tS]
        by_cases z : s ∈ at_ S k <;> simp [z]
      · simp only [wB_cons, wB_nil, wS_asg, wS_par, wS_setix, wS_aug, wS_expr, wS_ret, wS_ite, wS_frz, wE_nm, wE_con, wE_bin, wE_neg, wE_cmp, wE_and, wE_or, wE_not, wE_ite, wE_tup, wE_lst, wE_ix, wE_sl, wE_rev, wE_call, wE_callio, wE_callk, wE_bi, wE_lrg, wE_pop, wE_popp, wE_app, wE_appp, wE_rem, wE_ixs, wE_dne, wEs_nil, wEs_cons, wO_none, wO_some, wI_ex, wI_enum, wI_range, wC_nil, wC_cons, wp_some, wp_map, getV_zero, getV_succ, opT, biT, cmpT, wp_add_int, wp_add_lst, wp_add_tup, wp_add_str, wp_sub_int, wp_mul_int, wp_mul_lst, wp_mul_str, wp_fdiv, wp_mod, wp_pow, wp_len_lst, wp_len_tup, wp_list_lst, wp_list_tup, wp_tuple_lst, wp_tuple_tup, wp_rev_lst, wp_rev_tup, wp_sl_lst, wp_sl_tup, wp_neg, wp_listOf, wp_intOf, wp_iter_lst, wp_iter_tup, wp_lt_int, wp_gt_int, wp_le_int, wp_ge_int, bind_nm, bind_tup, set_nil, set_cons, List.set_cons_zero, List.set_cons_succ, List.map_cons, List.map_nil, List.cons_append, List.nil_append, List.replicate, ne_eq, not_true_eq_false, not_false_eq_true, true_implies, false_implies, true_and, and_true, reduceCtorEq, truth, decide_eq_true_eq, endOf, ix1_0, ix2_0, ix2_1, ix3_0, ix3_1, ix3_2, mut_int, List.length_cons, List.length_nil, Nat.reduceAdd, Nat.zero_add, List.getElem?_cons_zero, List.getElem?_cons_succ, ↓reduceIte, Option.getD_none, Option.getD_some, Bool.not_false, Bool.not_true, Bool.false_eq_true, true_or, or_true, implies_true, forall_const, Option.map_some, wp_eq_nil, pl_strs, List.isEmpty_map]
        by_cases z : (List.filter (fun s => !decide (s ∈ at_ S k)) (shared S left j)).isEmpty = true <;> simp [z, tPair]
    have eg : List.filter (fun k => ((shared S left j).filter fun s => !decide (s ∈ at_ S k)).isEmpty) (others left j) = goes S left j := rfl
    rw [eg]
    simp only [wB_cons, wB_nil, wS_asg, wS_par, wS_setix, wS_aug, wS_expr, wS_ret, wS_ite, wS_frz, wE_nm, wE_con, wE_bin, wE_neg, wE_cmp, wE_and, wE_or, wE_not, wE_ite, wE_tup, wE_lst, wE_ix, wE_sl, wE_rev, wE_call, wE_callio, wE_callk, wE_bi, wE_lrg, wE_pop, wE_popp, wE_app, wE_appp, wE_rem, wE_ixs, wE_dne, wEs_nil, wEs_cons, wO_none, wO_some, wI_ex, wI_enum, wI_range, wC_nil, wC_cons, wp_some, wp_map, getV_zero, getV_succ, opT, biT, cmpT, wp_add_int, wp_add_lst, wp_add_tup, wp_add_str, wp_sub_int, wp_mul_int, wp_mul_lst, wp_mul_str, wp_fdiv, wp_mod, wp_pow, wp_len_lst, wp_len_tup, wp_list_lst, wp_list_tup, wp_tuple_lst, wp_tuple_tup, wp_rev_lst, wp_rev_tup, wp_sl_lst, wp_sl_tup, wp_neg, wp_listOf, wp_intOf, wp_iter_lst, wp_iter_tup, wp_lt_int, wp_gt_int, wp_le_int, wp_ge_int, bind_nm, bind_tup, set_nil, set_cons, List.set_cons_zero, List.set_cons_succ, List.map_cons, List.map_nil, List.cons_append, List.nil_append, List.replicate, ne_eq, not_true_eq_false, not_false_eq_true, true_implies, false_implies, true_and, and_true, reduceCtorEq, truth, decide_eq_true_eq, endOf, ix1_0, ix2_0, ix2_1, ix3_0, ix3_1, ix3_2, mut_int, List.length_cons, List.length_nil, Nat.reduceAdd, Nat.zero_add, List.getElem?_cons_zero, List.getElem?_cons_succ, ↓reduceIte, Option.getD_none, Option.getD_some, Bool.not_false, Bool.not_true, Bool.false_eq_true, true_or, or_true, implies_true, forall_const, Option.map_some, List.length_map]
    refine ⟨okLen_of ?_, ?_⟩
    · have h1 := mgd_len (S := S) (left := left) hl done
      have h2 : (goes S left j).length ≤ 9 := Nat.le_trans (List.length_filter_le _ _) hol
      have h3 : done.length ≤ 9 := by
        have := congrArg List.length el
        rw [List.length_append] at this
        omega
      have h4 : done.length * 9 ≤ 9 * 9 := Nat.mul_le_mul_right _ h3
      omega
    · rw [mgd_snoc, List.map_append, List.map_map]
      exact ⟨_, _, _, rfl⟩
  · rintro e ⟨x3, x4, x5, rfl⟩
    simp only [wB_cons, wB_nil, wS_asg, wS_par, wS_setix, wS_aug, wS_expr, wS_ret, wS_ite, wS_frz, wE_nm, wE_con, wE_bin, wE_neg, wE_cmp, wE_and, wE_or, wE_not, wE_ite, wE_tup, wE_lst, wE_ix, wE_sl, wE_rev, wE_call, wE_callio, wE_callk, wE_bi, wE_lrg, wE_pop, wE_popp, wE_app, wE_appp, wE_rem, wE_ixs, wE_dne, wEs_nil, wEs_cons, wO_none, wO_some, wI_ex, wI_enum, wI_range, wC_nil, wC_cons, wp_some, wp_map, getV_zero, getV_succ, opT, biT, cmpT, wp_add_int, wp_add_lst, wp_add_tup, wp_add_str, wp_sub_int, wp_mul_int, wp_mul_lst, wp_mul_str, wp_fdiv, wp_mod, wp_pow, wp_len_lst, wp_len_tup, wp_list_lst, wp_list_tup, wp_tuple_lst, wp_tuple_tup, wp_rev_lst, wp_rev_tup, wp_sl_lst, wp_sl_tup, wp_neg, wp_listOf, wp_intOf, wp_iter_lst, wp_iter_tup, wp_lt_int, wp_gt_int, wp_le_int, wp_ge_int, bind_nm, bind_tup, set_nil, set_cons, List.set_cons_zero, List.set_cons_succ, List.map_cons, List.map_nil, List.cons_append, List.nil_append, List.replicate, ne_eq, not_true_eq_false, not_false_eq_true, true_implies, false_implies, true_and, and_true, reduceCtorEq, truth, decide_eq_true_eq, endOf, ix1_0, ix2_0, ix2_1, ix3_0, ix3_1, ix3_2, mut_int, List.length_cons, List.length_nil, Nat.reduceAdd, Nat.zero_add, List.getElem?_cons_zero, List.getElem?_cons_succ, ↓reduceIte, Option.getD_none, Option.getD_some, Bool.not_false, Bool.not_true, Bool.false_eq_true, true_or, or_true, implies_true, forall_const, Option.map_some]
    exact h
def tOrd (ps : List (Nat × Nat)) (e : Nat) : T := .tup (ps.map tPair ++ [.tup [.int (e : Int), .non]])
def cuts (S : List (List Tx)) (ps : List (Nat × Nat)) : List (List Tx) := ps.map fun p => com (at_ S p.1) (at_ S p.2)
/-- cuts_of -/
theorem cuts_of {n : Nat} {S : List (List Tx)} {ps : List (Nat × Nat)} {e : Nat} {P : T → Option T → Prop} (hp : ∀ p ∈ ps, p.1 < S.length ∧ p.2 < S.length) (hl : ps.length ≤ 1000000) (hS : ∀ g ∈ S, g.length ≤ 100) (h : P (tSets (cuts S ps)) none) : wK (callN tbl (n + 2)) 1 [tSets S, tOrd ps e] P := by
  refine wK_fn (d := f1) rfl rfl ?_
  unfold f1 tOrd
  simp only [wB_cons, wB_nil, wS_asg, wS_par, wS_setix, wS_aug, wS_expr, wS_ret, wS_ite, wS_frz, wE_nm, wE_con, wE_bin, wE_neg, wE_cmp, wE_and, wE_or, wE_not, wE_ite, wE_tup, wE_lst, wE_ix, wE_sl, wE_rev, wE_call, wE_callio, wE_callk, wE_bi, wE_lrg, wE_pop, wE_popp, wE_app, wE_appp, wE_rem, wE_ixs, wE_dne, wEs_nil, wEs_cons, wO_none, wO_some, wI_ex, wI_enum, wI_range, wC_nil, wC_cons, wp_some, wp_map, getV_zero, getV_succ, opT, biT, cmpT, wp_add_int, wp_add_lst, wp_add_tup, wp_add_str, wp_sub_int, wp_mul_int, wp_mul_lst, wp_mul_str, wp_fdiv, wp_mod, wp_pow, wp_len_lst, wp_len_tup, wp_list_lst, wp_list_tup, wp_tuple_lst, wp_tuple_tup, wp_rev_lst, wp_rev_tup, wp_sl_lst, wp_sl_tup, wp_neg, wp_listOf, wp_intOf, wp_iter_lst, wp_iter_tup, wp_lt_int, wp_gt_int, wp_le_int, wp_ge_int, bind_nm, bind_tup, set_nil, set_cons, List.set_cons_zero, List.set_cons_succ, List.map_cons, List.map_nil, List.cons_append, List.nil_append, List.replicate, ne_eq, not_true_eq_false, not_false_eq_true, true_implies, false_implies, true_and, and_true, reduceCtorEq, truth, decide_eq_true_eq, endOf, ix1_0, ix2_0, ix2_1, ix3_0, ix3_1, ix3_2, mut_int, List.length_cons, List.length_nil, Nat.reduceAdd, Nat.zero_add, List.getElem?_cons_zero, List.getElem?_cons_succ, ↓reduceIte, Option.getD_none, Option.getD_some, Bool.not_false, Bool.not_true, Bool.false_eq_true, true_or, or_true, implies_true, forall_const, Option.map_some, bind_star]
  refine wE_map ps tPair (fun p => tS (com (at_ S p.1) (at_ S p.2))) ?_
  unfold tPair
  simp only [wB_cons, wB_nil, wS_asg, wS_par, wS_setix, wS_aug, wS_expr, wS_ret, wS_ite, wS_frz, wE_nm, wE_con, wE_bin, wE_neg, wE_cmp, wE_and, wE_or, wE_not, wE_ite, wE_tup, wE_lst, wE_ix, wE_sl, wE_rev, wE_call, wE_callio, wE_callk, wE_bi, wE_lrg, wE_pop, wE_popp, wE_app, wE_appp, wE_rem, wE_ixs, wE_dne, wEs_nil, wEs_cons, wO_none, wO_some, wI_ex, wI_enum, wI_range, wC_nil, wC_cons, wp_some, wp_map, getV_zero, getV_succ, opT, biT, cmpT, wp_add_int, wp_add_lst, wp_add_tup, wp_add_str, wp_sub_int, wp_mul_int, wp_mul_lst, wp_mul_str, wp_fdiv, wp_mod, wp_pow, wp_len_lst, wp_len_tup, wp_list_lst, wp_list_tup, wp_tuple_lst, wp_tuple_tup, wp_rev_lst, wp_rev_tup, wp_sl_lst, wp_sl_tup, wp_neg, wp_listOf, wp_intOf, wp_iter_lst, wp_iter_tup, wp_lt_int, wp_gt_int, wp_le_int, wp_ge_int, bind_nm, bind_tup, set_nil, set_cons, List.set_cons_zero, List.set_cons_succ, List.map_cons, List.map_nil, List.cons_append, List.nil_append, List.replicate, ne_eq, not_true_eq_false, not_false_eq_true, true_implies, false_implies, true_and, and_true, reduceCtorEq, truth, decide_eq_true_eq, endOf, ix1_0, ix2_0, ix2_1, ix3_0, ix3_1, ix3_2, mut_int, List.length_cons, List.length_nil, Nat.reduceAdd, Nat.zero_add, List.getElem?_cons_zero, List.getElem?_cons_succ, ↓reduceIte, Option.getD_none, Option.getD_some, Bool.not_false, Bool.not_true, Bool.false_eq_true, true_or, or_true, implies_true, forall_const, Option.map_some, Pat.slots, wipeE]
  refine ⟨fun p hm => ?_, hl, ?_⟩
  · simp only [wB_cons, wB_nil, wS_asg, wS_par, wS_setix, wS_aug, wS_expr, wS_ret, wS_ite, wS_frz, wE_nm, wE_con, wE_bin, wE_neg, wE_cmp, wE_and, wE_or, wE_not, wE_ite, wE_tup, wE_lst, wE_ix, wE_sl, wE_rev, wE_call, wE_callio, wE_callk, wE_bi, wE_lrg, wE_pop, wE_popp, wE_app, wE_appp, wE_rem, wE_ixs, wE_dne, wEs_nil, wEs_cons, wO_none, wO_some, wI_ex, wI_enum, wI_range, wC_nil, wC_cons, wp_some, wp_map, getV_zero, getV_succ, opT, biT, cmpT, wp_add_int, wp_add_lst, wp_add_tup, wp_add_str, wp_sub_int, wp_mul_int, wp_mul_lst, wp_mul_str, wp_fdiv, wp_mod, wp_pow, wp_len_lst, wp_len_tup, wp_list_lst, wp_list_tup, wp_tuple_lst, wp_tuple_tup, wp_rev_lst, wp_rev_tup, wp_sl_lst, wp_sl_tup, wp_neg, wp_listOf, wp_intOf, wp_iter_lst, wp_iter_tup, wp_lt_int, wp_gt_int, wp_le_int, wp_ge_int, bind_nm, bind_tup, set_nil, set_cons, List.set_cons_zero, List.set_cons_succ, List.map_cons, List.map_nil, List.cons_append, List.nil_append, List.replicate, ne_eq, not_true_eq_false, not_false_eq_true, true_implies, false_implies, true_and, and_true, reduceCtorEq, truth, decide_eq_true_eq, endOf, ix1_0, ix2_0, ix2_1, ix3_0, ix3_1, ix3_2, mut_int, List.length_cons, List.length_nil, Nat.reduceAdd, Nat.zero_add, List.getElem?_cons_zero, List.getElem?_cons_succ, ↓reduceIte, Option.getD_none, Option.getD_some, Bool.not_false, Bool.not_true, Bool.false_eq_true, true_or, or_true, implies_true, forall_const, Option.map_some, ix_iff (hp p hm).1, ix_iff (hp p hm).2]
    exact common (Nat.le_trans (at_len hS) (by decide)) rfl
  · have e : ps.map (fun p => tS (com (at_ S p.1) (at_ S p.2))) = (cuts S ps).map tS := by rw [cuts, List.map_map]; rfl
    rw [e]
    exact h
/-- _law_in -/
theorem law_in {n : Nat} {S : List (List Tx)} {s : Tx} {P : T → Option T → Prop} (hl : S.length ≤ 1000000) (h : P (.int ((S.countP fun g => decide (s ∈ g)) : Nat)) none) : wK (callN tbl (n + 1)) 11 [tSets S, .str s] P := by
  refine wK_fn (d := f11) rfl rfl ?_
  unfold f11 tSets
  simp only [wB_cons, wB_nil, wS_asg, wS_par, wS_setix, wS_aug, wS_expr, wS_ret, wS_ite, wS_frz, wE_nm, wE_con, wE_bin, wE_neg, wE_cmp, wE_and, wE_or, wE_not, wE_ite, wE_tup, wE_lst, wE_ix, wE_sl, wE_rev, wE_call, wE_callio, wE_callk, wE_bi, wE_lrg, wE_pop, wE_popp, wE_app, wE_appp, wE_rem, wE_ixs, wE_dne, wEs_nil, wEs_cons, wO_none, wO_some, wI_ex, wI_enum, wI_range, wC_nil, wC_cons, wp_some, wp_map, getV_zero, getV_succ, opT, biT, cmpT, wp_add_int, wp_add_lst, wp_add_tup, wp_add_str, wp_sub_int, wp_mul_int, wp_mul_lst, wp_mul_str, wp_fdiv, wp_mod, wp_pow, wp_len_lst, wp_len_tup, wp_list_lst, wp_list_tup, wp_tuple_lst, wp_tuple_tup, wp_rev_lst, wp_rev_tup, wp_sl_lst, wp_sl_tup, wp_neg, wp_listOf, wp_intOf, wp_iter_lst, wp_iter_tup, wp_lt_int, wp_gt_int, wp_le_int, wp_ge_int, bind_nm, bind_tup, set_nil, set_cons, List.set_cons_zero, List.set_cons_succ, List.map_cons, List.map_nil, List.cons_append, List.nil_append, List.replicate, ne_eq, not_true_eq_false, not_false_eq_true, true_implies, false_implies, true_and, and_true, reduceCtorEq, truth, decide_eq_true_eq, endOf, ix1_0, ix2_0, ix2_1, ix3_0, ix3_1, ix3_2, mut_int, List.length_cons, List.length_nil, Nat.reduceAdd, Nat.zero_add, List.getElem?_cons_zero, List.getElem?_cons_succ, ↓reduceIte, Option.getD_none, Option.getD_some, Bool.not_false, Bool.not_true, Bool.false_eq_true, true_or, or_true, implies_true, forall_const, Option.map_some]
  refine wE_lcm S tS (fun g => decide (s ∈ g)) (fun _ => .int 1) ?_
  simp only [wB_cons, wB_nil, wS_asg, wS_par, wS_setix, wS_aug, wS_expr, wS_ret, wS_ite, wS_frz, wE_nm, wE_con, wE_bin, wE_neg, wE_cmp, wE_and, wE_or, wE_not, wE_ite, wE_tup, wE_lst, wE_ix, wE_sl, wE_rev, wE_call, wE_callio, wE_callk, wE_bi, wE_lrg, wE_pop, wE_popp, wE_app, wE_appp, wE_rem, wE_ixs, wE_dne, wEs_nil, wEs_cons, wO_none, wO_some, wI_ex, wI_enum, wI_range, wC_nil, wC_cons, wp_some, wp_map, getV_zero, getV_succ, opT, biT, cmpT, wp_add_int, wp_add_lst, wp_add_tup, wp_add_str, wp_sub_int, wp_mul_int, wp_mul_lst, wp_mul_str, wp_fdiv, wp_mod, wp_pow, wp_len_lst, wp_len_tup, wp_list_lst, wp_list_tup, wp_tuple_lst, wp_tuple_tup, wp_rev_lst, wp_rev_tup, wp_sl_lst, wp_sl_tup, wp_neg, wp_listOf, wp_intOf, wp_iter_lst, wp_iter_tup, wp_lt_int, wp_gt_int, wp_le_int, wp_ge_int, bind_nm, bind_tup, set_nil, set_cons, List.set_cons_zero, List.set_cons_succ, List.map_cons, List.map_nil, List.cons_append, List.nil_append, List.replicate, ne_eq, not_true_eq_false, not_false_eq_true, true_implies, false_implies, true_and, and_true, reduceCtorEq, truth, decide_eq_true_eq, endOf, ix1_0, ix2_0, ix2_1, ix3_0, ix3_1, ix3_2, mut_int, List.length_cons, List.length_nil, Nat.reduceAdd, Nat.zero_add, List.getElem?_cons_zero, List.getElem?_cons_succ, ↓reduceIte, Option.getD_none, Option.getD_some, Bool.not_false, Bool.not_true, Bool.false_eq_true, true_or, or_true, implies_true, forall_const, Option.map_some, Pat.slots, wipeE]
  refine ⟨fun g _ => ?_, hl, ?_⟩
  · simp only [wB_cons, wB_nil, wS_asg, wS_par, wS_setix, wS_aug, wS_expr, wS_ret, wS_ite, wS_frz, wE_nm, wE_con, wE_bin, wE_neg, wE_cmp, wE_and, wE_or, wE_not, wE_ite, wE_tup, wE_lst, wE_ix, wE_sl, wE_rev, wE_call, wE_callio, wE_callk, wE_bi, wE_lrg, wE_pop, wE_popp, wE_app, wE_appp, wE_rem, wE_ixs, wE_dne, wEs_nil, wEs_cons, wO_none, wO_some, wI_ex, wI_enum, wI_range, wC_nil, wC_cons, wp_some, wp_map, getV_zero, getV_succ, opT, biT, cmpT, wp_add_int, wp_add_lst, wp_add_tup, wp_add_str, wp_sub_int, wp_mul_int, wp_mul_lst, wp_mul_str, wp_fdiv, wp_mod, wp_pow, wp_len_lst, wp_len_tup, wp_list_lst, wp_list_tup, wp_tuple_lst, wp_tuple_tup, wp_rev_lst, wp_rev_tup, wp_sl_lst, wp_sl_tup, wp_neg, wp_listOf, wp_intOf, wp_iter_lst, wp_iter_tup, wp_lt_int, wp_gt_int, wp_le_int, wp_ge_int, bind_nm, bind_tup, set_nil, set_cons, List.set_cons_zero, List.set_cons_succ, List.map_cons, List.map_nil, List.cons_append, List.nil_append, List.replicate, ne_eq, not_true_eq_false, not_false_eq_true, true_implies, false_implies, true_and, and_true, reduceCtorEq, truth, decide_eq_true_eq, endOf, ix1_0, ix2_0, ix2_1, ix3_0, ix3_1, ix3_2, mut_int, List.length_cons, List.length_nil, Nat.reduceAdd, Nat.zero_add, List.getElem?_cons_zero, List.getElem?_cons_succ, ↓reduceIte, Option.getD_none, Option.getD_some, Bool.not_false, Bool.not_true, Bool.false_eq_true, true_or, or_true, implies_true, forall_const, Option.map_some, in_tS]
    by_cases z : s ∈ g <;> simp [z]
  · simp only [wB_cons, wB_nil, wS_asg, wS_par, wS_setix, wS_aug, wS_expr, wS_ret, wS_ite, wS_frz, wE_nm, wE_con, wE_bin, wE_neg, wE_cmp, wE_and, wE_or, wE_not, wE_ite, wE_tup, wE_lst, wE_ix, wE_sl, wE_rev, wE_call, wE_callio, wE_callk, wE_bi, wE_lrg, wE_pop, wE_popp, wE_app, wE_appp, wE_rem, wE_ixs, wE_dne, wEs_nil, wEs_cons, wO_none, wO_some, wI_ex, wI_enum, wI_range, wC_nil, wC_cons, wp_some, wp_map, getV_zero, getV_succ, opT, biT, cmpT, wp_add_int, wp_add_lst, wp_add_tup, wp_add_str, wp_sub_int, wp_mul_int, wp_mul_lst, wp_mul_str, wp_fdiv, wp_mod, wp_pow, wp_len_lst, wp_len_tup, wp_list_lst, wp_list_tup, wp_tuple_lst, wp_tuple_tup, wp_rev_lst, wp_rev_tup, wp_sl_lst, wp_sl_tup, wp_neg, wp_listOf, wp_intOf, wp_iter_lst, wp_iter_tup, wp_lt_int, wp_gt_int, wp_le_int, wp_ge_int, bind_nm, bind_tup, set_nil, set_cons, List.set_cons_zero, List.set_cons_succ, List.map_cons, List.map_nil, List.cons_append, List.nil_append, List.replicate, ne_eq, not_true_eq_false, not_false_eq_true, true_implies, false_implies, true_and, and_true, reduceCtorEq, truth, decide_eq_true_eq, endOf, ix1_0, ix2_0, ix2_1, ix3_0, ix3_1, ix3_2, mut_int, List.length_cons, List.length_nil, Nat.reduceAdd, Nat.zero_add, List.getElem?_cons_zero, List.getElem?_cons_succ, ↓reduceIte, Option.getD_none, Option.getD_some, Bool.not_false, Bool.not_true, Bool.false_eq_true, true_or, or_true, implies_true, forall_const, Option.map_some, List.length_map]
    rw [← List.countP_eq_length_filter]
    exact h
end K10
end

section
set_option Elab.async false
set_option linter.all false
set_option maxRecDepth 100000
set_option maxHeartbeats 4000000
/-! K10P: what the deck's defs answer. -/
namespace K10
open Pv
open L2 (ixN)
/-- a deck of which so many draws are gone -/
def Deck (c : Nat) (t : T) : Prop := ∃ (cells : List Int) (num : Int) (cnt : Nat), t = .lst [.lst (cells.map .int), .int num, .int cnt] ∧ cells.length ≤ 63 ∧ cnt ≤ c
theorem Deck.imp {c c' : Nat} {t : T} (h : Deck c t) (k : c ≤ c') : Deck c' t := by
  obtain ⟨a, b, d, e, f, g⟩ := h
  exact ⟨a, b, d, e, f, Nat.le_trans g k⟩
theorem mod_rng {a m : Int} (h : 0 < m) : 0 ≤ a % m ∧ a % m < m := ⟨Int.emod_nonneg _ (by omega), Int.emod_lt_of_pos _ h⟩
theorem nat_lt {i : Int} {n : Nat} (h0 : 0 ≤ i) (h1 : i < n) : i.natAbs < n := by omega
theorem draw {n c : Nat} {D : T} {lots : Int} {P : T → Option T → Prop} (hD : Deck c D) (hc : c ≤ 1000000) (h0 : 0 < lots) (h1 : lots ≤ 1000)
    (h : ∀ (r : Nat) (D' : T), (r : Int) < lots → Deck (c + 1) D' → P (.int r) (some D')) : wK (callN tbl (n + 1)) 3 [D, .int lots] P := by
  obtain ⟨cells, num, cnt, rfl, hl, hn⟩ := hD
  have H : ∀ (x : Int) (D' : T), Deck (c + 1) D' → P (.int (x % lots)) (some D') := fun x D' hd => by
    obtain ⟨r0, r1⟩ := mod_rng (a := x) h0
    obtain ⟨r, e⟩ := Int.eq_ofNat_of_zero_le r0
    rw [e] at r1 ⊢
    exact h r D' r1 hd
  have hq : ∃ q : Int, 92821 * ((cnt : Int) + 1) * ((cnt : Int) + 1) = q ∧ 0 ≤ q ∧ q < 1152921504606846976 := by
    refine ⟨_, rfl, ?_, ?_⟩
    · exact Int.mul_nonneg (Int.mul_nonneg (by decide) (by omega)) (by omega)
    · have h1 : (cnt + 1) * (cnt + 1) ≤ 1000001 * 1000001 := Nat.mul_le_mul (by omega) (by omega)
      have h2 : 92821 * ((cnt : Int) + 1) * ((cnt : Int) + 1) = ((92821 * ((cnt + 1) * (cnt + 1)) : Nat) : Int) := by
        rw [Int.mul_assoc]; rfl
      rw [h2]
      omega
  obtain ⟨q, eq, q0, q1⟩ := hq
  have kB : ∀ i : Int, -18446744073709551616 < i → i < 18446744073709551616 → i.natAbs < bigN := fun i => lt_big64
  have kV : ∀ i : Int, -18446744073709551616 < i → i < 18446744073709551616 → i.natAbs < divN := fun i => lt_div64
  have mix : ∀ (cells' : List Int), cells'.length ≤ 63 → Deck (c + 1) (.lst [.lst (cells'.map .int), .int num, .int ((cnt : Int) + 1)]) := fun cells' h => ⟨cells', num, cnt + 1, rfl, h, by omega⟩
  refine wK_fn (d := f3) rfl rfl ?_
  unfold f3
  rcases List.eq_nil_or_concat cells with rfl | ⟨init, x, rfl⟩
  · simp only [wB_cons, wB_nil, wS_asg, wS_par, wS_setix, wS_aug, wS_expr, wS_ret, wS_ite, wS_frz, wE_nm, wE_con, wE_bin, wE_neg, wE_cmp, wE_and, wE_or, wE_not, wE_ite, wE_tup, wE_lst, wE_ix, wE_sl, wE_rev, wE_call, wE_callio, wE_callk, wE_bi, wE_lrg, wE_pop, wE_popp, wE_app, wE_appp, wE_rem, wE_ixs, wE_dne, wEs_nil, wEs_cons, wO_none, wO_some, wI_ex, wI_enum, wI_range, wC_nil, wC_cons, wp_some, wp_map, getV_zero, getV_succ, opT, biT, cmpT, wp_add_int, wp_add_lst, wp_add_tup, wp_add_str, wp_sub_int, wp_mul_int, wp_mul_lst, wp_mul_str, wp_fdiv, wp_mod, wp_pow, wp_len_lst, wp_len_tup, wp_list_lst, wp_list_tup, wp_tuple_lst, wp_tuple_tup, wp_rev_lst, wp_rev_tup, wp_sl_lst, wp_sl_tup, wp_neg, wp_listOf, wp_intOf, wp_iter_lst, wp_iter_tup, wp_lt_int, wp_gt_int, wp_le_int, wp_ge_int, bind_nm, bind_tup, set_nil, set_cons, List.set_cons_zero, List.set_cons_succ, List.map_cons, List.map_nil, List.cons_append, List.nil_append, List.replicate, ne_eq, not_true_eq_false, not_false_eq_true, true_implies, false_implies, true_and, and_true, reduceCtorEq, truth, decide_eq_true_eq, endOf, ix1_0, ix2_0, ix2_1, ix3_0, ix3_1, ix3_2, mut_int, List.length_cons, List.length_nil, Nat.reduceAdd, Nat.zero_add, List.getElem?_cons_zero, List.getElem?_cons_succ, ↓reduceIte, Option.getD_none, Option.getD_some, Bool.not_false, Bool.not_true, Bool.false_eq_true, true_or, or_true, implies_true, forall_const, Option.map_some, List.isEmpty_nil, Ts.pl, eq]
    have b1 := mod_rng (a := num) (m := 2147483629) (by decide)
    generalize num % 2147483629 = r1 at b1 ⊢
    have b2 := mod_rng (a := (r1 + q + 17) * 48271) (m := 2147483647) (by decide)
    generalize hm2 : (r1 + q + 17) * 48271 % 2147483647 = m2 at b2 ⊢
    have b3 := mod_rng (a := (m2 * m2 + 69621 * ((cnt : Int) + 1) + 41)) (m := 2147483587) (by decide)
    generalize hm3 : (m2 * m2 + 69621 * ((cnt : Int) + 1) + 41) % 2147483587 = m3 at b3 ⊢
    generalize bigN = B at kB ⊢
    generalize divN = V at kV ⊢
    and_intros
    all_goals first
      | omega
      | exact kB _ (by omega) (by omega)
      | exact kV _ (by omega) (by omega)
      | exact H _ _ (mix [] (by decide))
  · rw [List.concat_eq_append] at hl ⊢
    have hi : init.length ≤ 62 := by rw [List.length_append] at hl; simp only [List.length_cons, List.length_nil] at hl; omega
    have hi' : (init.map T.int).length < 1000000 := by rw [List.length_map]; omega
    simp only [wB_cons, wB_nil, wS_asg, wS_par, wS_setix, wS_aug, wS_expr, wS_ret, wS_ite, wS_frz, wE_nm, wE_con, wE_bin, wE_neg, wE_cmp, wE_and, wE_or, wE_not, wE_ite, wE_tup, wE_lst, wE_ix, wE_sl, wE_rev, wE_call, wE_callio, wE_callk, wE_bi, wE_lrg, wE_pop, wE_popp, wE_app, wE_appp, wE_rem, wE_ixs, wE_dne, wEs_nil, wEs_cons, wO_none, wO_some, wI_ex, wI_enum, wI_range, wC_nil, wC_cons, wp_some, wp_map, getV_zero, getV_succ, opT, biT, cmpT, wp_add_int, wp_add_lst, wp_add_tup, wp_add_str, wp_sub_int, wp_mul_int, wp_mul_lst, wp_mul_str, wp_fdiv, wp_mod, wp_pow, wp_len_lst, wp_len_tup, wp_list_lst, wp_list_tup, wp_tuple_lst, wp_tuple_tup, wp_rev_lst, wp_rev_tup, wp_sl_lst, wp_sl_tup, wp_neg, wp_listOf, wp_intOf, wp_iter_lst, wp_iter_tup, wp_lt_int, wp_gt_int, wp_le_int, wp_ge_int, bind_nm, bind_tup, set_nil, set_cons, List.set_cons_zero, List.set_cons_succ, List.map_cons, List.map_nil, List.cons_append, List.nil_append, List.replicate, ne_eq, not_true_eq_false, not_false_eq_true, true_implies, false_implies, true_and, and_true, reduceCtorEq, truth, decide_eq_true_eq, endOf, ix1_0, ix2_0, ix2_1, ix3_0, ix3_1, ix3_2, mut_int, List.length_cons, List.length_nil, Nat.reduceAdd, Nat.zero_add, List.getElem?_cons_zero, List.getElem?_cons_succ, ↓reduceIte, Option.getD_none, Option.getD_some, Bool.not_false, Bool.not_true, Bool.false_eq_true, true_or, or_true, implies_true, forall_const, Option.map_some, List.map_append, isE_concat, wp_pop_last hi', eq]
    have b1 := mod_rng (a := x) (m := 2147483629) (by decide)
    generalize x % 2147483629 = r1 at b1 ⊢
    have b2 := mod_rng (a := (r1 + q + 17) * 48271) (m := 2147483647) (by decide)
    generalize hm2 : (r1 + q + 17) * 48271 % 2147483647 = m2 at b2 ⊢
    have b3 := mod_rng (a := (m2 * m2 + 69621 * ((cnt : Int) + 1) + 41)) (m := 2147483587) (by decide)
    generalize hm3 : (m2 * m2 + 69621 * ((cnt : Int) + 1) + 41) % 2147483587 = m3 at b3 ⊢
    have hp : Ts.pl (init.map T.int ++ [T.int x]) = true := by
      have := pl_ints (l := init ++ [x])
      rwa [List.map_append] at this
    refine ⟨hp, ⟨by decide, by decide⟩, fun _ => ⟨⟨h0, lt_div64 (by omega) (by omega)⟩, okLen_of (by omega), h0, ?_⟩, fun _ => ?_⟩
    · have := H x _ (mix (init ++ [x / lots]) (by rw [List.length_append]; simp only [List.length_cons, List.length_nil]; omega))
      rw [List.map_append] at this
      exact this
    · generalize bigN = B at kB ⊢
      generalize divN = V at kV ⊢
      and_intros
      all_goals first
        | omega
        | exact kB _ (by omega) (by omega)
        | exact kV _ (by omega) (by omega)
        | exact H _ _ (mix init (by omega))
end K10
end

section
set_option Elab.async false
set_option linter.all false
set_option maxRecDepth 100000
set_option maxHeartbeats 4000000
/-! K10R: _law_right tells True. -/
namespace K10
open Pv Gyo
open L2 (ixN)
/-- sets that repr can be asked of -/
structure Fit (S : List (List Tx)) : Prop where
  ne : 0 < S.length
  le : S.length ≤ 9
  w : ∀ g ∈ S, g.length ≤ 100
  t : ∀ g ∈ S, ∀ s ∈ g, s.length ≤ 8
theorem rp_S {S : List (List Tx)} {m w : Nat} (hl : S.length ≤ m) (hw : ∀ g ∈ S, g.length ≤ w) (ht : ∀ g ∈ S, ∀ s ∈ g, s.length ≤ 8) : Rp (tSets S) 2 (m * ((w * 84 + 4) + 2) + 4) := by
  refine Rp.tup (fun t h => ?_) (by rw [List.length_map]; exact hl)
  obtain ⟨g, hg, rfl⟩ := List.mem_map.mp h
  refine Rp.tup (d := 0) (n := 82) (fun t h => ?_) (by rw [List.length_map]; exact hw g hg)
  obtain ⟨s, hs, rfl⟩ := List.mem_map.mp h
  exact Rp.str (n := 8) (ht g hg s hs)
theorem rp_ord {ps : List (Nat × Nat)} {e : Nat} (hl : ps.length ≤ 9) (hp : ∀ p ∈ ps, p.1 < 9 ∧ p.2 < 9) (he : e < 9) : Rp (tOrd ps e) 2 50000 := by
  have h : Rp (tOrd ps e) 2 (10 * ((2 * 2002 + 4) + 2) + 4) := by
    refine Rp.tup (fun t h => ?_) (by rw [List.length_append, List.length_map]; simp only [List.length_cons, List.length_nil]; omega)
    rcases List.mem_append.mp h with h | h
    · obtain ⟨p, hm, rfl⟩ := List.mem_map.mp h
      refine Rp.tup (d := 0) (n := 2000) (fun t h => ?_) (Nat.le_refl _)
      have h1 := hp p hm
      rcases List.mem_cons.mp h with rfl | h
      · exact Rp.int (by omega)
      · rw [List.mem_singleton.mp h]; exact Rp.int (by omega)
    · rw [List.mem_singleton.mp h]
      refine Rp.tup (d := 0) (n := 2000) (fun t h => ?_) (Nat.le_refl _)
      rcases List.mem_cons.mp h with rfl | h
      · exact Rp.int (by omega)
      · rw [List.mem_singleton.mp h]; exact Rp.non.imp (Nat.le_refl _) (by decide)
  exact h.imp (Nat.le_refl _) (by decide)
theorem com_sub {a b : List Tx} : ∀ s ∈ com a b, s ∈ a := fun s h => (List.mem_filter.mp h).1
theorem at_mem {S : List (List Tx)} {i : Nat} {s : Tx} (h : s ∈ at_ S i) : at_ S i ∈ S := by
  unfold at_ at h ⊢
  rw [List.getD_eq_getElem?_getD] at h ⊢
  rcases Nat.lt_or_ge i S.length with lt | ge
  · rw [List.getElem?_eq_getElem lt]; exact List.getElem_mem lt
  · rw [List.getElem?_eq_none ge] at h; cases h
theorem cuts_t {S : List (List Tx)} {ps : List (Nat × Nat)} (h : ∀ g ∈ S, ∀ s ∈ g, s.length ≤ 8) : ∀ g ∈ cuts S ps, ∀ s ∈ g, s.length ≤ 8 := fun g hg s hs => by
  obtain ⟨p, _, rfl⟩ := List.mem_map.mp hg
  exact h _ (at_mem (com_sub s hs)) s (com_sub s hs)
theorem cuts_w {S : List (List Tx)} {ps : List (Nat × Nat)} {w : Nat} (h : ∀ g ∈ S, g.length ≤ w) : ∀ g ∈ cuts S ps, g.length ≤ w := fun g hg => by
  obtain ⟨p, _, rfl⟩ := List.mem_map.mp hg
  exact Nat.le_trans (List.length_filter_le _ _) (at_len h)
theorem cut_m1 {α : Type} {l : List α} {x : α} : cut (l ++ [x]) none (some (-1)) = l := by
  unfold cut
  have h1 : HT.sIx (l ++ [x]).length 0 none = 0 := rfl
  have h2 : HT.sIx (l ++ [x]).length (l ++ [x]).length (some (-1)) = l.length := by
    simp only [HT.sIx, List.length_append, List.length_cons, List.length_nil]
    rw [if_pos (by decide)]
    omega
  rw [h1, h2]
  simp
theorem sl_ord {ps : List (Nat × Nat)} {e : Nat} {Q : T → Prop} : wp (slT (tOrd ps e) none (some (-1))) Q ↔ Q (.tup (ps.map tPair)) := by
  unfold tOrd
  rw [wp_sl_tup, cut_m1]
/-- the pairs of an order, the last one's too -/
def ordL (ps : List (Nat × Nat)) (e : Nat) : List (Nat × Option Nat) := (ps.map fun p => (p.1, some p.2)) ++ [(e, none)]
def ordf2 : Option Nat → T
  | none => .non
  | some k => .int (k : Int)
def ordf (q : Nat × Option Nat) : T := .tup [.int (q.1 : Int), ordf2 q.2]
def ordg2 (far : Int) : Option Nat → T
  | none => .non
  | some k => .int (far - (k : Int))
def ordg (far : Int) (q : Nat × Option Nat) : T := .tup [.int (far - (q.1 : Int)), ordg2 far q.2]
theorem ordL_len {ps : List (Nat × Nat)} {e : Nat} : (ordL ps e).length = ps.length + 1 := by simp [ordL]
theorem ordL_map {ps : List (Nat × Nat)} {e : Nat} : tOrd ps e = .tup ((ordL ps e).map ordf) := by
  unfold tOrd ordL
  rw [List.map_append, List.map_map]
  rfl
theorem iter_ord {ps : List (Nat × Nat)} {e : Nat} {P : List T → Prop} : wp (iterT (tOrd ps e)) P ↔ P ((ordL ps e).map ordf) := by rw [ordL_map]; exact wp_some
theorem rev_sets {S : List (List Tx)} {Q : T → Prop} : wp (revT (tSets S)) Q ↔ Q (tSets S.reverse) := by
  unfold tSets
  rw [List.map_reverse]
  exact wp_some
theorem len_sets {S : List (List Tx)} {Q : T → Prop} : wp (lenT [tSets S]) Q ↔ Q (.int (S.length : Int)) := by
  unfold tSets
  rw [wp_len_tup, List.length_map]
theorem at_rev {S : List (List Tx)} {i : Nat} (h : i < S.length) : at_ S.reverse (S.length - 1 - i) = at_ S i := by
  unfold at_
  rw [List.getD_eq_getElem?_getD, List.getD_eq_getElem?_getD, List.getElem?_reverse (by omega)]
  congr 2
  omega
theorem right {n : Nat} {S : List (List Tx)} {ps : List (Nat × Nat)} {e : Nat} {called : List Tx} {P : T → Option T → Prop} (F : Fit S) (hl : ps.length ≤ 8) (hp : ∀ p ∈ ps, p.1 < S.length ∧ p.2 < S.length) (he : e < S.length)
    (hc : called.length ≤ 900) (hn : ∀ s ∈ called, (cuts S ps).countP (fun g => decide (s ∈ g)) + 1 = S.countP fun g => decide (s ∈ g)) (h : P (.bl true) none) : wK (callN tbl (n + 3)) 12 [tSets S, tOrd ps e, .lst (called.map .str)] P := by
  refine wK_fn (d := f12) rfl rfl ?_
  unfold f12
  have hcl : (cuts S ps).length = ps.length := List.length_map _
  have rSO : Rp (.tup [tSets S, tOrd ps e]) 3 (2 * (90000 + 2) + 4) := by
    have h1 := rp_S F.le F.w F.t
    have h2 := rp_ord (ps := ps) (e := e) (by omega) (fun p hm => by have := hp p hm; have := F.le; omega) (by have := F.le; omega)
    refine Rp.tup (d := 2) (n := 90000) (m := 2) (fun t ht => ?_) (Nat.le_refl _)
    rcases List.mem_cons.mp ht with rfl | ht
    · exact h1.imp (Nat.le_refl _) (by decide)
    · rw [List.mem_singleton.mp ht]; exact h2.imp (Nat.le_refl _) (by decide)
  have pS : ∀ j : Nat, (at_ S j).length ≤ 1000000 := fun j => Nat.le_trans (at_len F.w) (by decide)
  simp only [wB_cons, wB_nil, wS_asg, wS_par, wS_setix, wS_aug, wS_expr, wS_ret, wS_ite, wS_frz, wE_nm, wE_con, wE_bin, wE_neg, wE_cmp, wE_and, wE_or, wE_not, wE_ite, wE_tup, wE_lst, wE_ix, wE_sl, wE_rev, wE_call, wE_callio, wE_callk, wE_bi, wE_lrg, wE_pop, wE_popp, wE_app, wE_appp, wE_rem, wE_ixs, wE_dne, wEs_nil, wEs_cons, wO_none, wO_some, wI_ex, wI_enum, wI_range, wC_nil, wC_cons, wp_some, wp_map, getV_zero, getV_succ, opT, biT, cmpT, wp_add_int, wp_add_lst, wp_add_tup, wp_add_str, wp_sub_int, wp_mul_int, wp_mul_lst, wp_mul_str, wp_fdiv, wp_mod, wp_pow, wp_len_lst, wp_len_tup, wp_list_lst, wp_list_tup, wp_tuple_lst, wp_tuple_tup, wp_rev_lst, wp_rev_tup, wp_sl_lst, wp_sl_tup, wp_neg, wp_listOf, wp_intOf, wp_iter_lst, wp_iter_tup, wp_lt_int, wp_gt_int, wp_le_int, wp_ge_int, bind_nm, bind_tup, set_nil, set_cons, List.set_cons_zero, List.set_cons_succ, List.map_cons, List.map_nil, List.cons_append, List.nil_append, List.replicate, ne_eq, not_true_eq_false, not_false_eq_true, true_implies, false_implies, true_and, and_true, reduceCtorEq, truth, decide_eq_true_eq, endOf, ix1_0, ix2_0, ix2_1, ix3_0, ix3_1, ix3_2, mut_int, List.length_cons, List.length_nil, Nat.reduceAdd, Nat.zero_add, List.getElem?_cons_zero, List.getElem?_cons_succ, ↓reduceIte, Option.getD_none, Option.getD_some, Bool.not_false, Bool.not_true, Bool.false_eq_true, true_or, or_true, implies_true, forall_const, Option.map_some]
  refine wE_map ps tPair (fun p => tS (com (at_ S p.1) (at_ S p.2))) ?_
  simp only [wB_cons, wB_nil, wS_asg, wS_par, wS_setix, wS_aug, wS_expr, wS_ret, wS_ite, wS_frz, wE_nm, wE_con, wE_bin, wE_neg, wE_cmp, wE_and, wE_or, wE_not, wE_ite, wE_tup, wE_lst, wE_ix, wE_sl, wE_rev, wE_call, wE_callio, wE_callk, wE_bi, wE_lrg, wE_pop, wE_popp, wE_app, wE_appp, wE_rem, wE_ixs, wE_dne, wEs_nil, wEs_cons, wO_none, wO_some, wI_ex, wI_enum, wI_range, wC_nil, wC_cons, wp_some, wp_map, getV_zero, getV_succ, opT, biT, cmpT, wp_add_int, wp_add_lst, wp_add_tup, wp_add_str, wp_sub_int, wp_mul_int, wp_mul_lst, wp_mul_str, wp_fdiv, wp_mod, wp_pow, wp_len_lst, wp_len_tup, wp_list_lst, wp_list_tup, wp_tuple_lst, wp_tuple_tup, wp_rev_lst, wp_rev_tup, wp_sl_lst, wp_sl_tup, wp_neg, wp_listOf, wp_intOf, wp_iter_lst, wp_iter_tup, wp_lt_int, wp_gt_int, wp_le_int, wp_ge_int, bind_nm, bind_tup, set_nil, set_cons, List.set_cons_zero, List.set_cons_succ, List.map_cons, List.map_nil, List.cons_append, List.nil_append, List.replicate, ne_eq, not_true_eq_false, not_false_eq_true, true_implies, false_implies, true_and, and_true, reduceCtorEq, truth, decide_eq_true_eq, endOf, ix1_0, ix2_0, ix2_1, ix3_0, ix3_1, ix3_2, mut_int, List.length_cons, List.length_nil, Nat.reduceAdd, Nat.zero_add, List.getElem?_cons_zero, List.getElem?_cons_succ, ↓reduceIte, Option.getD_none, Option.getD_some, Bool.not_false, Bool.not_true, Bool.false_eq_true, true_or, or_true, implies_true, forall_const, Option.map_some, Pat.slots, wipeE, sl_ord, tPair]
  refine ⟨fun p hm => ?_, by omega, ?_⟩
  · refine wE_lcm (at_ S p.1) T.str (fun s => decide (s ∈ at_ S p.2)) T.str ?_
    simp only [wB_cons, wB_nil, wS_asg, wS_par, wS_setix, wS_aug, wS_expr, wS_ret, wS_ite, wS_frz, wE_nm, wE_con, wE_bin, wE_neg, wE_cmp, wE_and, wE_or, wE_not, wE_ite, wE_tup, wE_lst, wE_ix, wE_sl, wE_rev, wE_call, wE_callio, wE_callk, wE_bi, wE_lrg, wE_pop, wE_popp, wE_app, wE_appp, wE_rem, wE_ixs, wE_dne, wEs_nil, wEs_cons, wO_none, wO_some, wI_ex, wI_enum, wI_range, wC_nil, wC_cons, wp_some, wp_map, getV_zero, getV_succ, opT, biT, cmpT, wp_add_int, wp_add_lst, wp_add_tup, wp_add_str, wp_sub_int, wp_mul_int, wp_mul_lst, wp_mul_str, wp_fdiv, wp_mod, wp_pow, wp_len_lst, wp_len_tup, wp_list_lst, wp_list_tup, wp_tuple_lst, wp_tuple_tup, wp_rev_lst, wp_rev_tup, wp_sl_lst, wp_sl_tup, wp_neg, wp_listOf, wp_intOf, wp_iter_lst, wp_iter_tup, wp_lt_int, wp_gt_int, wp_le_int, wp_ge_int, bind_nm, bind_tup, set_nil, set_cons, List.set_cons_zero, List.set_cons_succ, List.map_cons, List.map_nil, List.cons_append, List.nil_append, List.replicate, ne_eq, not_true_eq_false, not_false_eq_true, true_implies, false_implies, true_and, and_true, reduceCtorEq, truth, decide_eq_true_eq, endOf, ix1_0, ix2_0, ix2_1, ix3_0, ix3_1, ix3_2, mut_int, List.length_cons, List.length_nil, Nat.reduceAdd, Nat.zero_add, List.getElem?_cons_zero, List.getElem?_cons_succ, ↓reduceIte, Option.getD_none, Option.getD_some, Bool.not_false, Bool.not_true, Bool.false_eq_true, true_or, or_true, implies_true, forall_const, Option.map_some, Pat.slots, wipeE, ix_iff (hp p hm).1, wp_iter_tS]
    refine ⟨fun s _ => ?_, pS _, rfl⟩
    simp only [wB_cons, wB_nil, wS_asg, wS_par, wS_setix, wS_aug, wS_expr, wS_ret, wS_ite, wS_frz, wE_nm, wE_con, wE_bin, wE_neg, wE_cmp, wE_and, wE_or, wE_not, wE_ite, wE_tup, wE_lst, wE_ix, wE_sl, wE_rev, wE_call, wE_callio, wE_callk, wE_bi, wE_lrg, wE_pop, wE_popp, wE_app, wE_appp, wE_rem, wE_ixs, wE_dne, wEs_nil, wEs_cons, wO_none, wO_some, wI_ex, wI_enum, wI_range, wC_nil, wC_cons, wp_some, wp_map, getV_zero, getV_succ, opT, biT, cmpT, wp_add_int, wp_add_lst, wp_add_tup, wp_add_str, wp_sub_int, wp_mul_int, wp_mul_lst, wp_mul_str, wp_fdiv, wp_mod, wp_pow, wp_len_lst, wp_len_tup, wp_list_lst, wp_list_tup, wp_tuple_lst, wp_tuple_tup, wp_rev_lst, wp_rev_tup, wp_sl_lst, wp_sl_tup, wp_neg, wp_listOf, wp_intOf, wp_iter_lst, wp_iter_tup, wp_lt_int, wp_gt_int, wp_le_int, wp_ge_int, bind_nm, bind_tup, set_nil, set_cons, List.set_cons_zero, List.set_cons_succ, List.map_cons, List.map_nil, List.cons_append, List.nil_append, List.replicate, ne_eq, not_true_eq_false, not_false_eq_true, true_implies, false_implies, true_and, and_true, reduceCtorEq, truth, decide_eq_true_eq, endOf, ix1_0, ix2_0, ix2_1, ix3_0, ix3_1, ix3_2, mut_int, List.length_cons, List.length_nil, Nat.reduceAdd, Nat.zero_add, List.getElem?_cons_zero, List.getElem?_cons_succ, ↓reduceIte, Option.getD_none, Option.getD_some, Bool.not_false, Bool.not_true, Bool.false_eq_true, true_or, or_true, implies_true, forall_const, Option.map_some, ix_iff (hp p hm).2, in_tS]
    by_cases z : s ∈ at_ S p.2 <;> simp [z]
  have ec : T.tup (ps.map fun p => tS (com (at_ S p.1) (at_ S p.2))) = tSets (cuts S ps) := by rw [tSets, cuts, List.map_map]; rfl
  rw [ec]
  refine wp_repr rSO (by decide) (by decide) rfl ?_
  generalize hr : reprT (T.tup [tSets S, tOrd ps e]) = kept
  refine cuts_of hp (by omega) F.w ?_
  simp only [wB_cons, wB_nil, wS_asg, wS_par, wS_setix, wS_aug, wS_expr, wS_ret, wS_ite, wS_frz, wE_nm, wE_con, wE_bin, wE_neg, wE_cmp, wE_and, wE_or, wE_not, wE_ite, wE_tup, wE_lst, wE_ix, wE_sl, wE_rev, wE_call, wE_callio, wE_callk, wE_bi, wE_lrg, wE_pop, wE_popp, wE_app, wE_appp, wE_rem, wE_ixs, wE_dne, wEs_nil, wEs_cons, wO_none, wO_some, wI_ex, wI_enum, wI_range, wC_nil, wC_cons, wp_some, wp_map, getV_zero, getV_succ, opT, biT, cmpT, wp_add_int, wp_add_lst, wp_add_tup, wp_add_str, wp_sub_int, wp_mul_int, wp_mul_lst, wp_mul_str, wp_fdiv, wp_mod, wp_pow, wp_len_lst, wp_len_tup, wp_list_lst, wp_list_tup, wp_tuple_lst, wp_tuple_tup, wp_rev_lst, wp_rev_tup, wp_sl_lst, wp_sl_tup, wp_neg, wp_listOf, wp_intOf, wp_iter_lst, wp_iter_tup, wp_lt_int, wp_gt_int, wp_le_int, wp_ge_int, bind_nm, bind_tup, set_nil, set_cons, List.set_cons_zero, List.set_cons_succ, List.map_cons, List.map_nil, List.cons_append, List.nil_append, List.replicate, ne_eq, not_true_eq_false, not_false_eq_true, true_implies, false_implies, true_and, and_true, reduceCtorEq, truth, decide_eq_true_eq, endOf, ix1_0, ix2_0, ix2_1, ix3_0, ix3_1, ix3_2, mut_int, List.length_cons, List.length_nil, Nat.reduceAdd, Nat.zero_add, List.getElem?_cons_zero, List.getElem?_cons_succ, ↓reduceIte, Option.getD_none, Option.getD_some, Bool.not_false, Bool.not_true, Bool.false_eq_true, true_or, or_true, implies_true, forall_const, Option.map_some, rev_sets, len_sets]
  generalize hfar : (S.length : Int) - 1 = far
  refine wE_map (ordL ps e) ordf (ordg far) ?_
  simp only [wB_cons, wB_nil, wS_asg, wS_par, wS_setix, wS_aug, wS_expr, wS_ret, wS_ite, wS_frz, wE_nm, wE_con, wE_bin, wE_neg, wE_cmp, wE_and, wE_or, wE_not, wE_ite, wE_tup, wE_lst, wE_ix, wE_sl, wE_rev, wE_call, wE_callio, wE_callk, wE_bi, wE_lrg, wE_pop, wE_popp, wE_app, wE_appp, wE_rem, wE_ixs, wE_dne, wEs_nil, wEs_cons, wO_none, wO_some, wI_ex, wI_enum, wI_range, wC_nil, wC_cons, wp_some, wp_map, getV_zero, getV_succ, opT, biT, cmpT, wp_add_int, wp_add_lst, wp_add_tup, wp_add_str, wp_sub_int, wp_mul_int, wp_mul_lst, wp_mul_str, wp_fdiv, wp_mod, wp_pow, wp_len_lst, wp_len_tup, wp_list_lst, wp_list_tup, wp_tuple_lst, wp_tuple_tup, wp_rev_lst, wp_rev_tup, wp_sl_lst, wp_sl_tup, wp_neg, wp_listOf, wp_intOf, wp_iter_lst, wp_iter_tup, wp_lt_int, wp_gt_int, wp_le_int, wp_ge_int, bind_nm, bind_tup, set_nil, set_cons, List.set_cons_zero, List.set_cons_succ, List.map_cons, List.map_nil, List.cons_append, List.nil_append, List.replicate, ne_eq, not_true_eq_false, not_false_eq_true, true_implies, false_implies, true_and, and_true, reduceCtorEq, truth, decide_eq_true_eq, endOf, ix1_0, ix2_0, ix2_1, ix3_0, ix3_1, ix3_2, mut_int, List.length_cons, List.length_nil, Nat.reduceAdd, Nat.zero_add, List.getElem?_cons_zero, List.getElem?_cons_succ, ↓reduceIte, Option.getD_none, Option.getD_some, Bool.not_false, Bool.not_true, Bool.false_eq_true, true_or, or_true, implies_true, forall_const, Option.map_some, iter_ord, ordf, Pat.slots, wipeE]
  refine ⟨fun q hm => ?_, by rw [ordL_len]; omega, ?_⟩
  · obtain ⟨j, k⟩ := q
    cases k <;> (simp only [wB_cons, wB_nil, wS_asg, wS_par, wS_setix, wS_aug, wS_expr, wS_ret, wS_ite, wS_frz, wE_nm, wE_con, wE_bin, wE_neg, wE_cmp, wE_and, wE_or, wE_not, wE_ite, wE_tup, wE_lst, wE_ix, wE_sl, wE_rev, wE_call, wE_callio, wE_callk, wE_bi, wE_lrg, wE_pop, wE_popp, wE_app, wE_appp, wE_rem, wE_ixs, wE_dne, wEs_nil, wEs_cons, wO_none, wO_some, wI_ex, wI_enum, wI_range, wC_nil, wC_cons, wp_some, wp_map, getV_zero, getV_succ, opT, biT, cmpT, wp_add_int, wp_add_lst, wp_add_tup, wp_add_str, wp_sub_int, wp_mul_int, wp_mul_lst, wp_mul_str, wp_fdiv, wp_mod, wp_pow, wp_len_lst, wp_len_tup, wp_list_lst, wp_list_tup, wp_tuple_lst, wp_tuple_tup, wp_rev_lst, wp_rev_tup, wp_sl_lst, wp_sl_tup, wp_neg, wp_listOf, wp_intOf, wp_iter_lst, wp_iter_tup, wp_lt_int, wp_gt_int, wp_le_int, wp_ge_int, bind_nm, bind_tup, set_nil, set_cons, List.set_cons_zero, List.set_cons_succ, List.map_cons, List.map_nil, List.cons_append, List.nil_append, List.replicate, ne_eq, not_true_eq_false, not_false_eq_true, true_implies, false_implies, true_and, and_true, reduceCtorEq, truth, decide_eq_true_eq, endOf, ix1_0, ix2_0, ix2_1, ix3_0, ix3_1, ix3_2, mut_int, List.length_cons, List.length_nil, Nat.reduceAdd, Nat.zero_add, List.getElem?_cons_zero, List.getElem?_cons_succ, ↓reduceIte, Option.getD_none, Option.getD_some, Bool.not_false, Bool.not_true, Bool.false_eq_true, true_or, or_true, implies_true, forall_const, Option.map_some, T.isN, ordf2, ordg]; simp; rfl)
  simp only [wB_cons, wB_nil, wS_asg, wS_par, wS_setix, wS_aug, wS_expr, wS_ret, wS_ite, wS_frz, wE_nm, wE_con, wE_bin, wE_neg, wE_cmp, wE_and, wE_or, wE_not, wE_ite, wE_tup, wE_lst, wE_ix, wE_sl, wE_rev, wE_call, wE_callio, wE_callk, wE_bi, wE_lrg, wE_pop, wE_popp, wE_app, wE_appp, wE_rem, wE_ixs, wE_dne, wEs_nil, wEs_cons, wO_none, wO_some, wI_ex, wI_enum, wI_range, wC_nil, wC_cons, wp_some, wp_map, getV_zero, getV_succ, opT, biT, cmpT, wp_add_int, wp_add_lst, wp_add_tup, wp_add_str, wp_sub_int, wp_mul_int, wp_mul_lst, wp_mul_str, wp_fdiv, wp_mod, wp_pow, wp_len_lst, wp_len_tup, wp_list_lst, wp_list_tup, wp_tuple_lst, wp_tuple_tup, wp_rev_lst, wp_rev_tup, wp_sl_lst, wp_sl_tup, wp_neg, wp_listOf, wp_intOf, wp_iter_lst, wp_iter_tup, wp_lt_int, wp_gt_int, wp_le_int, wp_ge_int, bind_nm, bind_tup, set_nil, set_cons, List.set_cons_zero, List.set_cons_succ, List.map_cons, List.map_nil, List.cons_append, List.nil_append, List.replicate, ne_eq, not_true_eq_false, not_false_eq_true, true_implies, false_implies, true_and, and_true, reduceCtorEq, truth, decide_eq_true_eq, endOf, ix1_0, ix2_0, ix2_1, ix3_0, ix3_1, ix3_2, mut_int, List.length_cons, List.length_nil, Nat.reduceAdd, Nat.zero_add, List.getElem?_cons_zero, List.getElem?_cons_succ, ↓reduceIte, Option.getD_none, Option.getD_some, Bool.not_false, Bool.not_true, Bool.false_eq_true, true_or, or_true, implies_true, forall_const, Option.map_some, List.getD_cons_zero, List.getD_cons_succ]
  refine cuts_of hp (by omega) F.w ?_
  have eo : T.tup ((ordL ps e).map (ordg far)) = tOrd (ps.map fun p => (S.length - 1 - p.1, S.length - 1 - p.2)) (S.length - 1 - e) := by
    have c : ∀ k : Nat, k < S.length → far - (k : Int) = ((S.length - 1 - k : Nat) : Int) := fun k hk => by omega
    unfold tOrd ordL
    rw [List.map_append, List.map_map, List.map_map, List.map_cons, List.map_nil]
    have e1 : ordg far (e, none) = .tup [.int ((S.length - 1 - e : Nat) : Int), .non] := by
      show T.tup [.int (far - (e : Int)), .non] = _
      rw [c e he]
    rw [e1]
    congr 2
    refine List.map_congr_left fun p hm => ?_
    show T.tup [.int (far - (p.1 : Int)), .int (far - (p.2 : Int))] = T.tup [.int ((S.length - 1 - p.1 : Nat) : Int), .int ((S.length - 1 - p.2 : Nat) : Int)]
    rw [c _ (hp p hm).1, c _ (hp p hm).2]
  have et : cuts S.reverse (ps.map fun p => (S.length - 1 - p.1, S.length - 1 - p.2)) = cuts S ps := by
    unfold cuts
    rw [List.map_map]
    refine List.map_congr_left fun p hm => ?_
    show com (at_ S.reverse (S.length - 1 - p.1)) (at_ S.reverse (S.length - 1 - p.2)) = _
    rw [at_rev (hp p hm).1, at_rev (hp p hm).2]
  rw [eo]
  refine cuts_of (fun p hm => ?_) (by rw [List.length_map]; omega) (fun g hg => F.w g (List.mem_reverse.mp hg)) ?_
  · obtain ⟨q, hq, rfl⟩ := List.mem_map.mp hm
    have := hp q hq
    rw [List.length_reverse]
    show S.length - 1 - q.1 < S.length ∧ S.length - 1 - q.2 < S.length
    omega
  rw [et]
  have r3 : Rp (.lst [tSets (cuts S ps), tSets (cuts S ps), tSets (cuts S ps)]) 3 (3 * (90000 + 2) + 4) := Rp.lst (fun t ht => by
    have h1 : Rp (tSets (cuts S ps)) 2 90000 := (rp_S (m := 8) (by omega) (cuts_w F.w) (cuts_t F.t)).imp (Nat.le_refl _) (by decide)
    rcases List.mem_cons.mp ht with rfl | ht
    · exact h1
    rcases List.mem_cons.mp ht with rfl | ht
    · exact h1
    · rw [List.mem_singleton.mp ht]; exact h1) (Nat.le_refl _)
  refine wp_repr r3 (by decide) (by decide) rfl ?_
  refine ⟨by decide, ?_⟩
  have e3 : repl (Int.toNat 3) [tSets (cuts S ps)] = [tSets (cuts S ps), tSets (cuts S ps), tSets (cuts S ps)] := rfl
  rw [e3]
  refine wp_repr r3 (by decide) (by decide) rfl ?_
  simp only [wB_cons, wB_nil, wS_asg, wS_par, wS_setix, wS_aug, wS_expr, wS_ret, wS_ite, wS_frz, wE_nm, wE_con, wE_bin, wE_neg, wE_cmp, wE_and, wE_or, wE_not, wE_ite, wE_tup, wE_lst, wE_ix, wE_sl, wE_rev, wE_call, wE_callio, wE_callk, wE_bi, wE_lrg, wE_pop, wE_popp, wE_app, wE_appp, wE_rem, wE_ixs, wE_dne, wEs_nil, wEs_cons, wO_none, wO_some, wI_ex, wI_enum, wI_range, wC_nil, wC_cons, wp_some, wp_map, getV_zero, getV_succ, opT, biT, cmpT, wp_add_int, wp_add_lst, wp_add_tup, wp_add_str, wp_sub_int, wp_mul_int, wp_mul_lst, wp_mul_str, wp_fdiv, wp_mod, wp_pow, wp_len_lst, wp_len_tup, wp_list_lst, wp_list_tup, wp_tuple_lst, wp_tuple_tup, wp_rev_lst, wp_rev_tup, wp_sl_lst, wp_sl_tup, wp_neg, wp_listOf, wp_intOf, wp_iter_lst, wp_iter_tup, wp_lt_int, wp_gt_int, wp_le_int, wp_ge_int, bind_nm, bind_tup, set_nil, set_cons, List.set_cons_zero, List.set_cons_succ, List.map_cons, List.map_nil, List.cons_append, List.nil_append, List.replicate, ne_eq, not_true_eq_false, not_false_eq_true, true_implies, false_implies, true_and, and_true, reduceCtorEq, truth, decide_eq_true_eq, endOf, ix1_0, ix2_0, ix2_1, ix3_0, ix3_1, ix3_2, mut_int, List.length_cons, List.length_nil, Nat.reduceAdd, Nat.zero_add, List.getElem?_cons_zero, List.getElem?_cons_succ, ↓reduceIte, Option.getD_none, Option.getD_some, Bool.not_false, Bool.not_true, Bool.false_eq_true, true_or, or_true, implies_true, forall_const, Option.map_some, wp_eq_str, decide_true]
  refine wE_lcm called T.str (fun _ => false) T.str ?_
  simp only [wB_cons, wB_nil, wS_asg, wS_par, wS_setix, wS_aug, wS_expr, wS_ret, wS_ite, wS_frz, wE_nm, wE_con, wE_bin, wE_neg, wE_cmp, wE_and, wE_or, wE_not, wE_ite, wE_tup, wE_lst, wE_ix, wE_sl, wE_rev, wE_call, wE_callio, wE_callk, wE_bi, wE_lrg, wE_pop, wE_popp, wE_app, wE_appp, wE_rem, wE_ixs, wE_dne, wEs_nil, wEs_cons, wO_none, wO_some, wI_ex, wI_enum, wI_range, wC_nil, wC_cons, wp_some, wp_map, getV_zero, getV_succ, opT, biT, cmpT, wp_add_int, wp_add_lst, wp_add_tup, wp_add_str, wp_sub_int, wp_mul_int, wp_mul_lst, wp_mul_str, wp_fdiv, wp_mod, wp_pow, wp_len_lst, wp_len_tup, wp_list_lst, wp_list_tup, wp_tuple_lst, wp_tuple_tup, wp_rev_lst, wp_rev_tup, wp_sl_lst, wp_sl_tup, wp_neg, wp_listOf, wp_intOf, wp_iter_lst, wp_iter_tup, wp_lt_int, wp_gt_int, wp_le_int, wp_ge_int, bind_nm, bind_tup, set_nil, set_cons, List.set_cons_zero, List.set_cons_succ, List.map_cons, List.map_nil, List.cons_append, List.nil_append, List.replicate, ne_eq, not_true_eq_false, not_false_eq_true, true_implies, false_implies, true_and, and_true, reduceCtorEq, truth, decide_eq_true_eq, endOf, ix1_0, ix2_0, ix2_1, ix3_0, ix3_1, ix3_2, mut_int, List.length_cons, List.length_nil, Nat.reduceAdd, Nat.zero_add, List.getElem?_cons_zero, List.getElem?_cons_succ, ↓reduceIte, Option.getD_none, Option.getD_some, Bool.not_false, Bool.not_true, Bool.false_eq_true, true_or, or_true, implies_true, forall_const, Option.map_some, Pat.slots, wipeE]
  refine ⟨fun s hs => ?_, by omega, ?_⟩
  · refine law_in (Nat.le_trans F.le (by decide)) ?_
    refine law_in (by omega) ?_
    simp only [wB_cons, wB_nil, wS_asg, wS_par, wS_setix, wS_aug, wS_expr, wS_ret, wS_ite, wS_frz, wE_nm, wE_con, wE_bin, wE_neg, wE_cmp, wE_and, wE_or, wE_not, wE_ite, wE_tup, wE_lst, wE_ix, wE_sl, wE_rev, wE_call, wE_callio, wE_callk, wE_bi, wE_lrg, wE_pop, wE_popp, wE_app, wE_appp, wE_rem, wE_ixs, wE_dne, wEs_nil, wEs_cons, wO_none, wO_some, wI_ex, wI_enum, wI_range, wC_nil, wC_cons, wp_some, wp_map, getV_zero, getV_succ, opT, biT, cmpT, wp_add_int, wp_add_lst, wp_add_tup, wp_add_str, wp_sub_int, wp_mul_int, wp_mul_lst, wp_mul_str, wp_fdiv, wp_mod, wp_pow, wp_len_lst, wp_len_tup, wp_list_lst, wp_list_tup, wp_tuple_lst, wp_tuple_tup, wp_rev_lst, wp_rev_tup, wp_sl_lst, wp_sl_tup, wp_neg, wp_listOf, wp_intOf, wp_iter_lst, wp_iter_tup, wp_lt_int, wp_gt_int, wp_le_int, wp_ge_int, bind_nm, bind_tup, set_nil, set_cons, List.set_cons_zero, List.set_cons_succ, List.map_cons, List.map_nil, List.cons_append, List.nil_append, List.replicate, ne_eq, not_true_eq_false, not_false_eq_true, true_implies, false_implies, true_and, and_true, reduceCtorEq, truth, decide_eq_true_eq, endOf, ix1_0, ix2_0, ix2_1, ix3_0, ix3_1, ix3_2, mut_int, List.length_cons, List.length_nil, Nat.reduceAdd, Nat.zero_add, List.getElem?_cons_zero, List.getElem?_cons_succ, ↓reduceIte, Option.getD_none, Option.getD_some, Bool.not_false, Bool.not_true, Bool.false_eq_true, true_or, or_true, implies_true, forall_const, Option.map_some, wp_eq_int]
    have := hn s hs
    intro z
    simp only [Bool.not_eq_true', decide_eq_false_iff_not] at z
    omega
  · have ef : List.filter (fun _ => false) called = [] := List.filter_eq_nil_iff.mpr fun _ _ => by simp
    rw [ef]
    simp only [wB_cons, wB_nil, wS_asg, wS_par, wS_setix, wS_aug, wS_expr, wS_ret, wS_ite, wS_frz, wE_nm, wE_con, wE_bin, wE_neg, wE_cmp, wE_and, wE_or, wE_not, wE_ite, wE_tup, wE_lst, wE_ix, wE_sl, wE_rev, wE_call, wE_callio, wE_callk, wE_bi, wE_lrg, wE_pop, wE_popp, wE_app, wE_appp, wE_rem, wE_ixs, wE_dne, wEs_nil, wEs_cons, wO_none, wO_some, wI_ex, wI_enum, wI_range, wC_nil, wC_cons, wp_some, wp_map, getV_zero, getV_succ, opT, biT, cmpT, wp_add_int, wp_add_lst, wp_add_tup, wp_add_str, wp_sub_int, wp_mul_int, wp_mul_lst, wp_mul_str, wp_fdiv, wp_mod, wp_pow, wp_len_lst, wp_len_tup, wp_list_lst, wp_list_tup, wp_tuple_lst, wp_tuple_tup, wp_rev_lst, wp_rev_tup, wp_sl_lst, wp_sl_tup, wp_neg, wp_listOf, wp_intOf, wp_iter_lst, wp_iter_tup, wp_lt_int, wp_gt_int, wp_le_int, wp_ge_int, bind_nm, bind_tup, set_nil, set_cons, List.set_cons_zero, List.set_cons_succ, List.map_cons, List.map_nil, List.cons_append, List.nil_append, List.replicate, ne_eq, not_true_eq_false, not_false_eq_true, true_implies, false_implies, true_and, and_true, reduceCtorEq, truth, decide_eq_true_eq, endOf, ix1_0, ix2_0, ix2_1, ix3_0, ix3_1, ix3_2, mut_int, List.length_cons, List.length_nil, Nat.reduceAdd, Nat.zero_add, List.getElem?_cons_zero, List.getElem?_cons_succ, ↓reduceIte, Option.getD_none, Option.getD_some, Bool.not_false, Bool.not_true, Bool.false_eq_true, true_or, or_true, implies_true, forall_const, Option.map_some, wp_eq_nil, Ts.pl, List.isEmpty_nil]
    refine wp_repr rSO (by decide) (by decide) rfl ?_
    rw [hr]
    simp only [wB_cons, wB_nil, wS_asg, wS_par, wS_setix, wS_aug, wS_expr, wS_ret, wS_ite, wS_frz, wE_nm, wE_con, wE_bin, wE_neg, wE_cmp, wE_and, wE_or, wE_not, wE_ite, wE_tup, wE_lst, wE_ix, wE_sl, wE_rev, wE_call, wE_callio, wE_callk, wE_bi, wE_lrg, wE_pop, wE_popp, wE_app, wE_appp, wE_rem, wE_ixs, wE_dne, wEs_nil, wEs_cons, wO_none, wO_some, wI_ex, wI_enum, wI_range, wC_nil, wC_cons, wp_some, wp_map, getV_zero, getV_succ, opT, biT, cmpT, wp_add_int, wp_add_lst, wp_add_tup, wp_add_str, wp_sub_int, wp_mul_int, wp_mul_lst, wp_mul_str, wp_fdiv, wp_mod, wp_pow, wp_len_lst, wp_len_tup, wp_list_lst, wp_list_tup, wp_tuple_lst, wp_tuple_tup, wp_rev_lst, wp_rev_tup, wp_sl_lst, wp_sl_tup, wp_neg, wp_listOf, wp_intOf, wp_iter_lst, wp_iter_tup, wp_lt_int, wp_gt_int, wp_le_int, wp_ge_int, bind_nm, bind_tup, set_nil, set_cons, List.set_cons_zero, List.set_cons_succ, List.map_cons, List.map_nil, List.cons_append, List.nil_append, List.replicate, ne_eq, not_true_eq_false, not_false_eq_true, true_implies, false_implies, true_and, and_true, reduceCtorEq, truth, decide_eq_true_eq, endOf, ix1_0, ix2_0, ix2_1, ix3_0, ix3_1, ix3_2, mut_int, List.length_cons, List.length_nil, Nat.reduceAdd, Nat.zero_add, List.getElem?_cons_zero, List.getElem?_cons_succ, ↓reduceIte, Option.getD_none, Option.getD_some, Bool.not_false, Bool.not_true, Bool.false_eq_true, true_or, or_true, implies_true, forall_const, Option.map_some, wp_eq_str, decide_true]
    exact h
end K10
end

section
set_option Elab.async false
set_option linter.all false
set_option maxRecDepth 100000
set_option maxHeartbeats 4000000
/-! K10D: _law_pick, _law_called, _law_some. -/
namespace K10
open Pv Gyo
open L2 (ixN)
theorem pick {n c : Nat} {D : T} {l : List T} {P : T → Option T → Prop} (hD : Deck c D) (hc : c ≤ 1000000) (h0 : 0 < l.length) (h1 : l.length ≤ 1000)
    (h : ∀ (t : T) (D' : T), t ∈ l → Deck (c + 1) D' → P t (some D')) : wK (callN tbl (n + 2)) 4 [D, .lst l] P := by
  refine wK_fn (d := f4) rfl rfl ?_
  unfold f4
  simp only [wB_cons, wB_nil, wS_asg, wS_par, wS_setix, wS_aug, wS_expr, wS_ret, wS_ite, wS_frz, wE_nm, wE_con, wE_bin, wE_neg, wE_cmp, wE_and, wE_or, wE_not, wE_ite, wE_tup, wE_lst, wE_ix, wE_sl, wE_rev, wE_call, wE_callio, wE_callk, wE_bi, wE_lrg, wE_pop, wE_popp, wE_app, wE_appp, wE_rem, wE_ixs, wE_dne, wEs_nil, wEs_cons, wO_none, wO_some, wI_ex, wI_enum, wI_range, wC_nil, wC_cons, wp_some, wp_map, getV_zero, getV_succ, opT, biT, cmpT, wp_add_int, wp_add_lst, wp_add_tup, wp_add_str, wp_sub_int, wp_mul_int, wp_mul_lst, wp_mul_str, wp_fdiv, wp_mod, wp_pow, wp_len_lst, wp_len_tup, wp_list_lst, wp_list_tup, wp_tuple_lst, wp_tuple_tup, wp_rev_lst, wp_rev_tup, wp_sl_lst, wp_sl_tup, wp_neg, wp_listOf, wp_intOf, wp_iter_lst, wp_iter_tup, wp_lt_int, wp_gt_int, wp_le_int, wp_ge_int, bind_nm, bind_tup, set_nil, set_cons, List.set_cons_zero, List.set_cons_succ, List.map_cons, List.map_nil, List.cons_append, List.nil_append, List.replicate, ne_eq, not_true_eq_false, not_false_eq_true, true_implies, false_implies, true_and, and_true, reduceCtorEq, truth, decide_eq_true_eq, endOf, ix1_0, ix2_0, ix2_1, ix3_0, ix3_1, ix3_2, mut_int, List.length_cons, List.length_nil, Nat.reduceAdd, Nat.zero_add, List.getElem?_cons_zero, List.getElem?_cons_succ, ↓reduceIte, Option.getD_none, Option.getD_some, Bool.not_false, Bool.not_true, Bool.false_eq_true, true_or, or_true, implies_true, forall_const, Option.map_some]
  refine draw hD hc (by omega) (by omega) fun r D' hr hd => ?_
  simp only [wB_cons, wB_nil, wS_asg, wS_par, wS_setix, wS_aug, wS_expr, wS_ret, wS_ite, wS_frz, wE_nm, wE_con, wE_bin, wE_neg, wE_cmp, wE_and, wE_or, wE_not, wE_ite, wE_tup, wE_lst, wE_ix, wE_sl, wE_rev, wE_call, wE_callio, wE_callk, wE_bi, wE_lrg, wE_pop, wE_popp, wE_app, wE_appp, wE_rem, wE_ixs, wE_dne, wEs_nil, wEs_cons, wO_none, wO_some, wI_ex, wI_enum, wI_range, wC_nil, wC_cons, wp_some, wp_map, getV_zero, getV_succ, opT, biT, cmpT, wp_add_int, wp_add_lst, wp_add_tup, wp_add_str, wp_sub_int, wp_mul_int, wp_mul_lst, wp_mul_str, wp_fdiv, wp_mod, wp_pow, wp_len_lst, wp_len_tup, wp_list_lst, wp_list_tup, wp_tuple_lst, wp_tuple_tup, wp_rev_lst, wp_rev_tup, wp_sl_lst, wp_sl_tup, wp_neg, wp_listOf, wp_intOf, wp_iter_lst, wp_iter_tup, wp_lt_int, wp_gt_int, wp_le_int, wp_ge_int, bind_nm, bind_tup, set_nil, set_cons, List.set_cons_zero, List.set_cons_succ, List.map_cons, List.map_nil, List.cons_append, List.nil_append, List.replicate, ne_eq, not_true_eq_false, not_false_eq_true, true_implies, false_implies, true_and, and_true, reduceCtorEq, truth, decide_eq_true_eq, endOf, ix1_0, ix2_0, ix2_1, ix3_0, ix3_1, ix3_2, mut_int, List.length_cons, List.length_nil, Nat.reduceAdd, Nat.zero_add, List.getElem?_cons_zero, List.getElem?_cons_succ, ↓reduceIte, Option.getD_none, Option.getD_some, Bool.not_false, Bool.not_true, Bool.false_eq_true, true_or, or_true, implies_true, forall_const, Option.map_some]
  have lt : r < l.length := by omega
  exact wp_ix_lst (List.getElem?_eq_getElem lt) (h _ _ (List.getElem_mem lt) hd)
/-! ### the signs that are called -/
def abc : List Nat := [97, 98, 99, 100, 101, 102, 103, 104, 105, 106, 107, 108, 109, 110, 111, 112, 113, 114, 115, 116, 117, 118, 119, 120, 121, 122]
def words : List Tx := [[111, 102], [97], [97, 103, 101], [104, 97, 116], [114, 105, 110, 103], [99, 108, 117, 109, 112], [110, 111, 110, 101], [99, 97, 115, 101, 115], [103, 111], [97, 116]]
def g0 (a k : Nat) : Tx := [abc.getD ((a + 5 * k) % 26) 0]
def g1 (a k : Nat) : Tx := repl (k + 1) [abc.getD a 0]
def g2 (a k : Nat) : Tx := [104, 97, 116, 113, 113, 113, 113] ++ [abc.getD ((a + 3 * k) % 26) 0]
def g3 (a k : Nat) : Tx := words.getD ((a + k) % 10) []
def gs (s a : Nat) : List Tx := (List.range 8).map ([g0, g1, g2, g3].getD s g0 a)
theorem gs_ok : ∀ s < 4, ∀ a < 26, (gs s a).Nodup ∧ ∀ x ∈ gs s a, x.length ≤ 8 := by decide +kernel
theorem ix_abc {i : Nat} {Q : T → Prop} (h : i < 26) : wp (ixT (.str abc) (.int (i : Int))) Q ↔ Q (.str [abc.getD i 0]) := by
  have e : ixT (.str abc) (.int (i : Int)) = some (.str [abc.getD i 0]) := by
    show ((ixN abc.length (i : Int)).bind (abc[·]?)).map _ = _
    rw [ixN_nn (show i < abc.length from h)]
    show (abc[i]?).map _ = _
    rw [List.getElem?_eq_getElem (show i < abc.length from h), List.getD_eq_getElem?_getD, List.getElem?_eq_getElem (show i < abc.length from h)]
    rfl
  rw [e, wp_some]
theorem ix_words {i : Nat} {Q : T → Prop} (h : i < 10) : wp (ixT (.lst (words.map .str)) (.int (i : Int))) Q ↔ Q (.str (words.getD i [])) := by
  obtain ⟨t, e, q⟩ := wp_ix_lst (Q := fun t => t = .str (words.getD i [])) (l := words.map .str) (k := i) (t := .str (words.getD i [])) (by
    rw [List.getElem?_map, List.getD_eq_getElem?_getD, List.getElem?_eq_getElem (show i < words.length from h)]
    rfl) rfl
  rw [e, wp_some, q]
theorem ab : T.str [97, 98, 99, 100, 101, 102, 103, 104, 105, 106, 107, 108, 109, 110, 111, 112, 113, 114, 115, 116, 117, 118, 119, 120, 121, 122] = .str abc := rfl
theorem wds : T.lst [T.str [111, 102], T.str [97], T.str [97, 103, 101], T.str [104, 97, 116], T.str [114, 105, 110, 103], T.str [99, 108, 117, 109, 112], T.str [110, 111, 110, 101], T.str [99, 97, 115, 101, 115], T.str [103, 111], T.str [97, 116]] = .lst (words.map .str) := rfl
theorem cut_to {α : Type} {l : List α} {k : Nat} {f : α → T} : cut (l.map f) none (some (k : Int)) = (l.take k).map f := by
  unfold cut
  have h1 : HT.sIx (l.map f).length 0 none = 0 := rfl
  rw [h1, HT.sIx_nat, List.drop_zero, Nat.sub_zero, List.length_map, List.map_take]
  rcases Nat.le_total k l.length with z | z
  · rw [Nat.min_eq_left z]
  · rw [Nat.min_eq_right z, List.take_of_length_le (i := l.length) (by rw [List.length_map]; exact Nat.le_refl _), List.take_of_length_le (by rw [List.length_map]; exact z)]
theorem called {n c : Nat} {D : T} {lots : Int} {P : T → Option T → Prop} (hD : Deck c D) (hc : c ≤ 900000) (h0 : 0 < lots) (h1 : lots ≤ 8)
    (h : ∀ (ws : List Tx) (D' : T), ws.Nodup → ws.length ≤ 8 → (∀ x ∈ ws, x.length ≤ 8) → Deck (c + 2) D' → P (.lst (ws.map .str)) (some D')) : wK (callN tbl (n + 2)) 5 [D, .int lots] P := by
  refine wK_fn (d := f5) rfl rfl ?_
  unfold f5
  simp only [wB_cons, wB_nil, wS_asg, wS_par, wS_setix, wS_aug, wS_expr, wS_ret, wS_ite, wS_frz, wE_nm, wE_con, wE_bin, wE_neg, wE_cmp, wE_and, wE_or, wE_not, wE_ite, wE_tup, wE_lst, wE_ix, wE_sl, wE_rev, wE_call, wE_callio, wE_callk, wE_bi, wE_lrg, wE_pop, wE_popp, wE_app, wE_appp, wE_rem, wE_ixs, wE_dne, wEs_nil, wEs_cons, wO_none, wO_some, wI_ex, wI_enum, wI_range, wC_nil, wC_cons, wp_some, wp_map, getV_zero, getV_succ, opT, biT, cmpT, wp_add_int, wp_add_lst, wp_add_tup, wp_add_str, wp_sub_int, wp_mul_int, wp_mul_lst, wp_mul_str, wp_fdiv, wp_mod, wp_pow, wp_len_lst, wp_len_tup, wp_list_lst, wp_list_tup, wp_tuple_lst, wp_tuple_tup, wp_rev_lst, wp_rev_tup, wp_sl_lst, wp_sl_tup, wp_neg, wp_listOf, wp_intOf, wp_iter_lst, wp_iter_tup, wp_lt_int, wp_gt_int, wp_le_int, wp_ge_int, bind_nm, bind_tup, set_nil, set_cons, List.set_cons_zero, List.set_cons_succ, List.map_cons, List.map_nil, List.cons_append, List.nil_append, List.replicate, ne_eq, not_true_eq_false, not_false_eq_true, true_implies, false_implies, true_and, and_true, reduceCtorEq, truth, decide_eq_true_eq, endOf, ix1_0, ix2_0, ix2_1, ix3_0, ix3_1, ix3_2, mut_int, List.length_cons, List.length_nil, Nat.reduceAdd, Nat.zero_add, List.getElem?_cons_zero, List.getElem?_cons_succ, ↓reduceIte, Option.getD_none, Option.getD_some, Bool.not_false, Bool.not_true, Bool.false_eq_true, true_or, or_true, implies_true, forall_const, Option.map_some]
  refine draw hD (by omega) (by omega) (by omega) fun s D' hs hd => ?_
  simp only [wB_cons, wB_nil, wS_asg, wS_par, wS_setix, wS_aug, wS_expr, wS_ret, wS_ite, wS_frz, wE_nm, wE_con, wE_bin, wE_neg, wE_cmp, wE_and, wE_or, wE_not, wE_ite, wE_tup, wE_lst, wE_ix, wE_sl, wE_rev, wE_call, wE_callio, wE_callk, wE_bi, wE_lrg, wE_pop, wE_popp, wE_app, wE_appp, wE_rem, wE_ixs, wE_dne, wEs_nil, wEs_cons, wO_none, wO_some, wI_ex, wI_enum, wI_range, wC_nil, wC_cons, wp_some, wp_map, getV_zero, getV_succ, opT, biT, cmpT, wp_add_int, wp_add_lst, wp_add_tup, wp_add_str, wp_sub_int, wp_mul_int, wp_mul_lst, wp_mul_str, wp_fdiv, wp_mod, wp_pow, wp_len_lst, wp_len_tup, wp_list_lst, wp_list_tup, wp_tuple_lst, wp_tuple_tup, wp_rev_lst, wp_rev_tup, wp_sl_lst, wp_sl_tup, wp_neg, wp_listOf, wp_intOf, wp_iter_lst, wp_iter_tup, wp_lt_int, wp_gt_int, wp_le_int, wp_ge_int, bind_nm, bind_tup, set_nil, set_cons, List.set_cons_zero, List.set_cons_succ, List.map_cons, List.map_nil, List.cons_append, List.nil_append, List.replicate, ne_eq, not_true_eq_false, not_false_eq_true, true_implies, false_implies, true_and, and_true, reduceCtorEq, truth, decide_eq_true_eq, endOf, ix1_0, ix2_0, ix2_1, ix3_0, ix3_1, ix3_2, mut_int, List.length_cons, List.length_nil, Nat.reduceAdd, Nat.zero_add, List.getElem?_cons_zero, List.getElem?_cons_succ, ↓reduceIte, Option.getD_none, Option.getD_some, Bool.not_false, Bool.not_true, Bool.false_eq_true, true_or, or_true, implies_true, forall_const, Option.map_some]
  refine draw hd (by omega) (by omega) (by omega) fun a D2 ha hd2 => ?_
  have hs' : s < 4 := by omega
  have ha' : a < 26 := by omega
  clear hd hs ha
  simp only [wB_cons, wB_nil, wS_asg, wS_par, wS_setix, wS_aug, wS_expr, wS_ret, wS_ite, wS_frz, wE_nm, wE_con, wE_bin, wE_neg, wE_cmp, wE_and, wE_or, wE_not, wE_ite, wE_tup, wE_lst, wE_ix, wE_sl, wE_rev, wE_call, wE_callio, wE_callk, wE_bi, wE_lrg, wE_pop, wE_popp, wE_app, wE_appp, wE_rem, wE_ixs, wE_dne, wEs_nil, wEs_cons, wO_none, wO_some, wI_ex, wI_enum, wI_range, wC_nil, wC_cons, wp_some, wp_map, getV_zero, getV_succ, opT, biT, cmpT, wp_add_int, wp_add_lst, wp_add_tup, wp_add_str, wp_sub_int, wp_mul_int, wp_mul_lst, wp_mul_str, wp_fdiv, wp_mod, wp_pow, wp_len_lst, wp_len_tup, wp_list_lst, wp_list_tup, wp_tuple_lst, wp_tuple_tup, wp_rev_lst, wp_rev_tup, wp_sl_lst, wp_sl_tup, wp_neg, wp_listOf, wp_intOf, wp_iter_lst, wp_iter_tup, wp_lt_int, wp_gt_int, wp_le_int, wp_ge_int, bind_nm, bind_tup, set_nil, set_cons, List.set_cons_zero, List.set_cons_succ, List.map_cons, List.map_nil, List.cons_append, List.nil_append, List.replicate, ne_eq, not_true_eq_false, not_false_eq_true, true_implies, false_implies, true_and, and_true, reduceCtorEq, truth, decide_eq_true_eq, endOf, ix1_0, ix2_0, ix2_1, ix3_0, ix3_1, ix3_2, mut_int, List.length_cons, List.length_nil, Nat.reduceAdd, Nat.zero_add, List.getElem?_cons_zero, List.getElem?_cons_succ, ↓reduceIte, Option.getD_none, Option.getD_some, Bool.not_false, Bool.not_true, Bool.false_eq_true, true_or, or_true, implies_true, forall_const, Option.map_some]
  rw [ab]
  refine wE_rng (m := 8) (fun k => .str (g0 a k)) (by decide) (fun k hk => ?_) ?_
  · simp only [wB_cons, wB_nil, wS_asg, wS_par, wS_setix, wS_aug, wS_expr, wS_ret, wS_ite, wS_frz, wE_nm, wE_con, wE_bin, wE_neg, wE_cmp, wE_and, wE_or, wE_not, wE_ite, wE_tup, wE_lst, wE_ix, wE_sl, wE_rev, wE_call, wE_callio, wE_callk, wE_bi, wE_lrg, wE_pop, wE_popp, wE_app, wE_appp, wE_rem, wE_ixs, wE_dne, wEs_nil, wEs_cons, wO_none, wO_some, wI_ex, wI_enum, wI_range, wC_nil, wC_cons, wp_some, wp_map, getV_zero, getV_succ, opT, biT, cmpT, wp_add_int, wp_add_lst, wp_add_tup, wp_add_str, wp_sub_int, wp_mul_int, wp_mul_lst, wp_mul_str, wp_fdiv, wp_mod, wp_pow, wp_len_lst, wp_len_tup, wp_list_lst, wp_list_tup, wp_tuple_lst, wp_tuple_tup, wp_rev_lst, wp_rev_tup, wp_sl_lst, wp_sl_tup, wp_neg, wp_listOf, wp_intOf, wp_iter_lst, wp_iter_tup, wp_lt_int, wp_gt_int, wp_le_int, wp_ge_int, bind_nm, bind_tup, set_nil, set_cons, List.set_cons_zero, List.set_cons_succ, List.map_cons, List.map_nil, List.cons_append, List.nil_append, List.replicate, ne_eq, not_true_eq_false, not_false_eq_true, true_implies, false_implies, true_and, and_true, reduceCtorEq, truth, decide_eq_true_eq, endOf, ix1_0, ix2_0, ix2_1, ix3_0, ix3_1, ix3_2, mut_int, List.length_cons, List.length_nil, Nat.reduceAdd, Nat.zero_add, List.getElem?_cons_zero, List.getElem?_cons_succ, ↓reduceIte, Option.getD_none, Option.getD_some, Bool.not_false, Bool.not_true, Bool.false_eq_true, true_or, or_true, implies_true, forall_const, Option.map_some, Pat.slots, wipeE]
    have e : ((a : Int) + 5 * (k : Int)) % 26 = (((a + 5 * k) % 26 : Nat) : Int) := by omega
    rw [e, ix_abc (Nat.mod_lt _ (by decide))]
    exact ⟨⟨lt_big64 (by omega) (by omega), lt_big64 (by omega) (by omega)⟩, by decide, rfl⟩
  refine wE_rng (m := 8) (fun k => .str (g1 a k)) (by decide) (fun k hk => ?_) ?_
  · simp only [wB_cons, wB_nil, wS_asg, wS_par, wS_setix, wS_aug, wS_expr, wS_ret, wS_ite, wS_frz, wE_nm, wE_con, wE_bin, wE_neg, wE_cmp, wE_and, wE_or, wE_not, wE_ite, wE_tup, wE_lst, wE_ix, wE_sl, wE_rev, wE_call, wE_callio, wE_callk, wE_bi, wE_lrg, wE_pop, wE_popp, wE_app, wE_appp, wE_rem, wE_ixs, wE_dne, wEs_nil, wEs_cons, wO_none, wO_some, wI_ex, wI_enum, wI_range, wC_nil, wC_cons, wp_some, wp_map, getV_zero, getV_succ, opT, biT, cmpT, wp_add_int, wp_add_lst, wp_add_tup, wp_add_str, wp_sub_int, wp_mul_int, wp_mul_lst, wp_mul_str, wp_fdiv, wp_mod, wp_pow, wp_len_lst, wp_len_tup, wp_list_lst, wp_list_tup, wp_tuple_lst, wp_tuple_tup, wp_rev_lst, wp_rev_tup, wp_sl_lst, wp_sl_tup, wp_neg, wp_listOf, wp_intOf, wp_iter_lst, wp_iter_tup, wp_lt_int, wp_gt_int, wp_le_int, wp_ge_int, bind_nm, bind_tup, set_nil, set_cons, List.set_cons_zero, List.set_cons_succ, List.map_cons, List.map_nil, List.cons_append, List.nil_append, List.replicate, ne_eq, not_true_eq_false, not_false_eq_true, true_implies, false_implies, true_and, and_true, reduceCtorEq, truth, decide_eq_true_eq, endOf, ix1_0, ix2_0, ix2_1, ix3_0, ix3_1, ix3_2, mut_int, List.length_cons, List.length_nil, Nat.reduceAdd, Nat.zero_add, List.getElem?_cons_zero, List.getElem?_cons_succ, ↓reduceIte, Option.getD_none, Option.getD_some, Bool.not_false, Bool.not_true, Bool.false_eq_true, true_or, or_true, implies_true, forall_const, Option.map_some, Pat.slots, wipeE, ix_abc ha']
    refine ⟨?_, ?_⟩
    · unfold okRep
      rw [okLen_of (by omega), decide_eq_true (by omega), decide_eq_true (by omega)]
      rfl
    · have e : ((k : Int) + 1).toNat = k + 1 := by omega
      rw [e]
      rfl
  simp only [wB_cons, wB_nil, wS_asg, wS_par, wS_setix, wS_aug, wS_expr, wS_ret, wS_ite, wS_frz, wE_nm, wE_con, wE_bin, wE_neg, wE_cmp, wE_and, wE_or, wE_not, wE_ite, wE_tup, wE_lst, wE_ix, wE_sl, wE_rev, wE_call, wE_callio, wE_callk, wE_bi, wE_lrg, wE_pop, wE_popp, wE_app, wE_appp, wE_rem, wE_ixs, wE_dne, wEs_nil, wEs_cons, wO_none, wO_some, wI_ex, wI_enum, wI_range, wC_nil, wC_cons, wp_some, wp_map, getV_zero, getV_succ, opT, biT, cmpT, wp_add_int, wp_add_lst, wp_add_tup, wp_add_str, wp_sub_int, wp_mul_int, wp_mul_lst, wp_mul_str, wp_fdiv, wp_mod, wp_pow, wp_len_lst, wp_len_tup, wp_list_lst, wp_list_tup, wp_tuple_lst, wp_tuple_tup, wp_rev_lst, wp_rev_tup, wp_sl_lst, wp_sl_tup, wp_neg, wp_listOf, wp_intOf, wp_iter_lst, wp_iter_tup, wp_lt_int, wp_gt_int, wp_le_int, wp_ge_int, bind_nm, bind_tup, set_nil, set_cons, List.set_cons_zero, List.set_cons_succ, List.map_cons, List.map_nil, List.cons_append, List.nil_append, List.replicate, ne_eq, not_true_eq_false, not_false_eq_true, true_implies, false_implies, true_and, and_true, reduceCtorEq, truth, decide_eq_true_eq, endOf, ix1_0, ix2_0, ix2_1, ix3_0, ix3_1, ix3_2, mut_int, List.length_cons, List.length_nil, Nat.reduceAdd, Nat.zero_add, List.getElem?_cons_zero, List.getElem?_cons_succ, ↓reduceIte, Option.getD_none, Option.getD_some, Bool.not_false, Bool.not_true, Bool.false_eq_true, true_or, or_true, implies_true, forall_const, Option.map_some]
  refine wE_rng (m := 8) (fun k => .str (g2 a k)) (by decide) (fun k hk => ?_) ?_
  · simp only [wB_cons, wB_nil, wS_asg, wS_par, wS_setix, wS_aug, wS_expr, wS_ret, wS_ite, wS_frz, wE_nm, wE_con, wE_bin, wE_neg, wE_cmp, wE_and, wE_or, wE_not, wE_ite, wE_tup, wE_lst, wE_ix, wE_sl, wE_rev, wE_call, wE_callio, wE_callk, wE_bi, wE_lrg, wE_pop, wE_popp, wE_app, wE_appp, wE_rem, wE_ixs, wE_dne, wEs_nil, wEs_cons, wO_none, wO_some, wI_ex, wI_enum, wI_range, wC_nil, wC_cons, wp_some, wp_map, getV_zero, getV_succ, opT, biT, cmpT, wp_add_int, wp_add_lst, wp_add_tup, wp_add_str, wp_sub_int, wp_mul_int, wp_mul_lst, wp_mul_str, wp_fdiv, wp_mod, wp_pow, wp_len_lst, wp_len_tup, wp_list_lst, wp_list_tup, wp_tuple_lst, wp_tuple_tup, wp_rev_lst, wp_rev_tup, wp_sl_lst, wp_sl_tup, wp_neg, wp_listOf, wp_intOf, wp_iter_lst, wp_iter_tup, wp_lt_int, wp_gt_int, wp_le_int, wp_ge_int, bind_nm, bind_tup, set_nil, set_cons, List.set_cons_zero, List.set_cons_succ, List.map_cons, List.map_nil, List.cons_append, List.nil_append, List.replicate, ne_eq, not_true_eq_false, not_false_eq_true, true_implies, false_implies, true_and, and_true, reduceCtorEq, truth, decide_eq_true_eq, endOf, ix1_0, ix2_0, ix2_1, ix3_0, ix3_1, ix3_2, mut_int, List.length_cons, List.length_nil, Nat.reduceAdd, Nat.zero_add, List.getElem?_cons_zero, List.getElem?_cons_succ, ↓reduceIte, Option.getD_none, Option.getD_some, Bool.not_false, Bool.not_true, Bool.false_eq_true, true_or, or_true, implies_true, forall_const, Option.map_some, Pat.slots, wipeE]
    have e : ((a : Int) + 3 * (k : Int)) % 26 = (((a + 3 * k) % 26 : Nat) : Int) := by omega
    rw [e, ix_abc (Nat.mod_lt _ (by decide))]
    refine ⟨⟨lt_big64 (by omega) (by omega), lt_big64 (by omega) (by omega)⟩, by decide, ?_⟩
    simp only [wB_cons, wB_nil, wS_asg, wS_par, wS_setix, wS_aug, wS_expr, wS_ret, wS_ite, wS_frz, wE_nm, wE_con, wE_bin, wE_neg, wE_cmp, wE_and, wE_or, wE_not, wE_ite, wE_tup, wE_lst, wE_ix, wE_sl, wE_rev, wE_call, wE_callio, wE_callk, wE_bi, wE_lrg, wE_pop, wE_popp, wE_app, wE_appp, wE_rem, wE_ixs, wE_dne, wEs_nil, wEs_cons, wO_none, wO_some, wI_ex, wI_enum, wI_range, wC_nil, wC_cons, wp_some, wp_map, getV_zero, getV_succ, opT, biT, cmpT, wp_add_int, wp_add_lst, wp_add_tup, wp_add_str, wp_sub_int, wp_mul_int, wp_mul_lst, wp_mul_str, wp_fdiv, wp_mod, wp_pow, wp_len_lst, wp_len_tup, wp_list_lst, wp_list_tup, wp_tuple_lst, wp_tuple_tup, wp_rev_lst, wp_rev_tup, wp_sl_lst, wp_sl_tup, wp_neg, wp_listOf, wp_intOf, wp_iter_lst, wp_iter_tup, wp_lt_int, wp_gt_int, wp_le_int, wp_ge_int, bind_nm, bind_tup, set_nil, set_cons, List.set_cons_zero, List.set_cons_succ, List.map_cons, List.map_nil, List.cons_append, List.nil_append, List.replicate, ne_eq, not_true_eq_false, not_false_eq_true, true_implies, false_implies, true_and, and_true, reduceCtorEq, truth, decide_eq_true_eq, endOf, ix1_0, ix2_0, ix2_1, ix3_0, ix3_1, ix3_2, mut_int, List.length_cons, List.length_nil, Nat.reduceAdd, Nat.zero_add, List.getElem?_cons_zero, List.getElem?_cons_succ, ↓reduceIte, Option.getD_none, Option.getD_some, Bool.not_false, Bool.not_true, Bool.false_eq_true, true_or, or_true, implies_true, forall_const, Option.map_some]
    exact ⟨by decide, rfl⟩
  simp only [wB_cons, wB_nil, wS_asg, wS_par, wS_setix, wS_aug, wS_expr, wS_ret, wS_ite, wS_frz, wE_nm, wE_con, wE_bin, wE_neg, wE_cmp, wE_and, wE_or, wE_not, wE_ite, wE_tup, wE_lst, wE_ix, wE_sl, wE_rev, wE_call, wE_callio, wE_callk, wE_bi, wE_lrg, wE_pop, wE_popp, wE_app, wE_appp, wE_rem, wE_ixs, wE_dne, wEs_nil, wEs_cons, wO_none, wO_some, wI_ex, wI_enum, wI_range, wC_nil, wC_cons, wp_some, wp_map, getV_zero, getV_succ, opT, biT, cmpT, wp_add_int, wp_add_lst, wp_add_tup, wp_add_str, wp_sub_int, wp_mul_int, wp_mul_lst, wp_mul_str, wp_fdiv, wp_mod, wp_pow, wp_len_lst, wp_len_tup, wp_list_lst, wp_list_tup, wp_tuple_lst, wp_tuple_tup, wp_rev_lst, wp_rev_tup, wp_sl_lst, wp_sl_tup, wp_neg, wp_listOf, wp_intOf, wp_iter_lst, wp_iter_tup, wp_lt_int, wp_gt_int, wp_le_int, wp_ge_int, bind_nm, bind_tup, set_nil, set_cons, List.set_cons_zero, List.set_cons_succ, List.map_cons, List.map_nil, List.cons_append, List.nil_append, List.replicate, ne_eq, not_true_eq_false, not_false_eq_true, true_implies, false_implies, true_and, and_true, reduceCtorEq, truth, decide_eq_true_eq, endOf, ix1_0, ix2_0, ix2_1, ix3_0, ix3_1, ix3_2, mut_int, List.length_cons, List.length_nil, Nat.reduceAdd, Nat.zero_add, List.getElem?_cons_zero, List.getElem?_cons_succ, ↓reduceIte, Option.getD_none, Option.getD_some, Bool.not_false, Bool.not_true, Bool.false_eq_true, true_or, or_true, implies_true, forall_const, Option.map_some]
  refine ⟨by decide, ?_⟩
  rw [wds]
  refine wE_rng (m := 8) (fun k => .str (g3 a k)) (by decide) (fun k hk => ?_) ?_
  · simp only [wB_cons, wB_nil, wS_asg, wS_par, wS_setix, wS_aug, wS_expr, wS_ret, wS_ite, wS_frz, wE_nm, wE_con, wE_bin, wE_neg, wE_cmp, wE_and, wE_or, wE_not, wE_ite, wE_tup, wE_lst, wE_ix, wE_sl, wE_rev, wE_call, wE_callio, wE_callk, wE_bi, wE_lrg, wE_pop, wE_popp, wE_app, wE_appp, wE_rem, wE_ixs, wE_dne, wEs_nil, wEs_cons, wO_none, wO_some, wI_ex, wI_enum, wI_range, wC_nil, wC_cons, wp_some, wp_map, getV_zero, getV_succ, opT, biT, cmpT, wp_add_int, wp_add_lst, wp_add_tup, wp_add_str, wp_sub_int, wp_mul_int, wp_mul_lst, wp_mul_str, wp_fdiv, wp_mod, wp_pow, wp_len_lst, wp_len_tup, wp_list_lst, wp_list_tup, wp_tuple_lst, wp_tuple_tup, wp_rev_lst, wp_rev_tup, wp_sl_lst, wp_sl_tup, wp_neg, wp_listOf, wp_intOf, wp_iter_lst, wp_iter_tup, wp_lt_int, wp_gt_int, wp_le_int, wp_ge_int, bind_nm, bind_tup, set_nil, set_cons, List.set_cons_zero, List.set_cons_succ, List.map_cons, List.map_nil, List.cons_append, List.nil_append, List.replicate, ne_eq, not_true_eq_false, not_false_eq_true, true_implies, false_implies, true_and, and_true, reduceCtorEq, truth, decide_eq_true_eq, endOf, ix1_0, ix2_0, ix2_1, ix3_0, ix3_1, ix3_2, mut_int, List.length_cons, List.length_nil, Nat.reduceAdd, Nat.zero_add, List.getElem?_cons_zero, List.getElem?_cons_succ, ↓reduceIte, Option.getD_none, Option.getD_some, Bool.not_false, Bool.not_true, Bool.false_eq_true, true_or, or_true, implies_true, forall_const, Option.map_some, Pat.slots, wipeE]
    have e : ((a : Int) + (k : Int)) % 10 = (((a + k) % 10 : Nat) : Int) := by omega
    rw [e, ix_words (Nat.mod_lt _ (by decide))]
    exact ⟨by decide, rfl⟩
  simp only [wB_cons, wB_nil, wS_asg, wS_par, wS_setix, wS_aug, wS_expr, wS_ret, wS_ite, wS_frz, wE_nm, wE_con, wE_bin, wE_neg, wE_cmp, wE_and, wE_or, wE_not, wE_ite, wE_tup, wE_lst, wE_ix, wE_sl, wE_rev, wE_call, wE_callio, wE_callk, wE_bi, wE_lrg, wE_pop, wE_popp, wE_app, wE_appp, wE_rem, wE_ixs, wE_dne, wEs_nil, wEs_cons, wO_none, wO_some, wI_ex, wI_enum, wI_range, wC_nil, wC_cons, wp_some, wp_map, getV_zero, getV_succ, opT, biT, cmpT, wp_add_int, wp_add_lst, wp_add_tup, wp_add_str, wp_sub_int, wp_mul_int, wp_mul_lst, wp_mul_str, wp_fdiv, wp_mod, wp_pow, wp_len_lst, wp_len_tup, wp_list_lst, wp_list_tup, wp_tuple_lst, wp_tuple_tup, wp_rev_lst, wp_rev_tup, wp_sl_lst, wp_sl_tup, wp_neg, wp_listOf, wp_intOf, wp_iter_lst, wp_iter_tup, wp_lt_int, wp_gt_int, wp_le_int, wp_ge_int, bind_nm, bind_tup, set_nil, set_cons, List.set_cons_zero, List.set_cons_succ, List.map_cons, List.map_nil, List.cons_append, List.nil_append, List.replicate, ne_eq, not_true_eq_false, not_false_eq_true, true_implies, false_implies, true_and, and_true, reduceCtorEq, truth, decide_eq_true_eq, endOf, ix1_0, ix2_0, ix2_1, ix3_0, ix3_1, ix3_2, mut_int, List.length_cons, List.length_nil, Nat.reduceAdd, Nat.zero_add, List.getElem?_cons_zero, List.getElem?_cons_succ, ↓reduceIte, Option.getD_none, Option.getD_some, Bool.not_false, Bool.not_true, Bool.false_eq_true, true_or, or_true, implies_true, forall_const, Option.map_some]
  refine ⟨by decide, ?_⟩
  refine wp_ix_lst (t := .lst ((gs s a).map .str)) ?_ ?_
  · have e : ∀ g : Nat → Tx, (List.range 8).map (fun k => T.str (g k)) = ((List.range 8).map g).map .str := fun g => by rw [List.map_map]; rfl
    rw [e, e, e, e]
    match s, hs' with
    | 0, _ => rfl
    | 1, _ => rfl
    | 2, _ => rfl
    | 3, _ => rfl
  obtain ⟨nd, le⟩ := gs_ok s hs' a ha'
  obtain ⟨l, rfl⟩ := Int.eq_ofNat_of_zero_le (Int.le_of_lt h0)
  have ecut : cut ((gs s a).map T.str) none (some (l : Int)) = ((gs s a).take l).map .str := cut_to
  simp only [wB_cons, wB_nil, wS_asg, wS_par, wS_setix, wS_aug, wS_expr, wS_ret, wS_ite, wS_frz, wE_nm, wE_con, wE_bin, wE_neg, wE_cmp, wE_and, wE_or, wE_not, wE_ite, wE_tup, wE_lst, wE_ix, wE_sl, wE_rev, wE_call, wE_callio, wE_callk, wE_bi, wE_lrg, wE_pop, wE_popp, wE_app, wE_appp, wE_rem, wE_ixs, wE_dne, wEs_nil, wEs_cons, wO_none, wO_some, wI_ex, wI_enum, wI_range, wC_nil, wC_cons, wp_some, wp_map, getV_zero, getV_succ, opT, biT, cmpT, wp_add_int, wp_add_lst, wp_add_tup, wp_add_str, wp_sub_int, wp_mul_int, wp_mul_lst, wp_mul_str, wp_fdiv, wp_mod, wp_pow, wp_len_lst, wp_len_tup, wp_list_lst, wp_list_tup, wp_tuple_lst, wp_tuple_tup, wp_rev_lst, wp_rev_tup, wp_sl_lst, wp_sl_tup, wp_neg, wp_listOf, wp_intOf, wp_iter_lst, wp_iter_tup, wp_lt_int, wp_gt_int, wp_le_int, wp_ge_int, bind_nm, bind_tup, set_nil, set_cons, List.set_cons_zero, List.set_cons_succ, List.map_cons, List.map_nil, List.cons_append, List.nil_append, List.replicate, ne_eq, not_true_eq_false, not_false_eq_true, true_implies, false_implies, true_and, and_true, reduceCtorEq, truth, decide_eq_true_eq, endOf, ix1_0, ix2_0, ix2_1, ix3_0, ix3_1, ix3_2, mut_int, List.length_cons, List.length_nil, Nat.reduceAdd, Nat.zero_add, List.getElem?_cons_zero, List.getElem?_cons_succ, ↓reduceIte, Option.getD_none, Option.getD_some, Bool.not_false, Bool.not_true, Bool.false_eq_true, true_or, or_true, implies_true, forall_const, Option.map_some, ecut]
  have hl : ((gs s a).take l).length ≤ 8 := Nat.le_trans (List.length_take_le _ _) (by omega)
  refine ⟨_, sortT_strs (by omega), ?_⟩
  have pm := sortS_perm ((gs s a).take l)
  exact h _ _ (pm.nodup_iff.mpr (nd.sublist (List.take_sublist _ _))) (by rw [pm.length_eq]; exact hl) (fun x hx => le x (List.mem_of_mem_take (pm.mem_iff.mp hx))) hd2
/-- some of them -/
theorem some_of {n c m : Nat} {D X : T} {l : List Tx} {P : T → Option T → Prop} (hD : Deck c D) (hc : c ≤ 900000) (hX : listT [X] = some (.lst (l.map .str))) (hl : l.length ≤ m) (hm : m ≤ 500)
    (h : ∀ (l' : List Tx) (D' : T), (∀ s ∈ l', s ∈ l) → l'.length ≤ l.length → Deck (c + 2 * m + 2) D' → P (.lst (l'.map .str)) (some D')) : wK (callN tbl (n + 2)) 6 [D, X] P := by
  refine wK_fn (d := f6) rfl rfl ?_
  unfold f6
  simp only [wB_cons, wB_nil, wS_asg, wS_par, wS_setix, wS_aug, wS_expr, wS_ret, wS_ite, wS_frz, wE_nm, wE_con, wE_bin, wE_neg, wE_cmp, wE_and, wE_or, wE_not, wE_ite, wE_tup, wE_lst, wE_ix, wE_sl, wE_rev, wE_call, wE_callio, wE_callk, wE_bi, wE_lrg, wE_pop, wE_popp, wE_app, wE_appp, wE_rem, wE_ixs, wE_dne, wEs_nil, wEs_cons, wO_none, wO_some, wI_ex, wI_enum, wI_range, wC_nil, wC_cons, wp_some, wp_map, getV_zero, getV_succ, opT, biT, cmpT, wp_add_int, wp_add_lst, wp_add_tup, wp_add_str, wp_sub_int, wp_mul_int, wp_mul_lst, wp_mul_str, wp_fdiv, wp_mod, wp_pow, wp_len_lst, wp_len_tup, wp_list_lst, wp_list_tup, wp_tuple_lst, wp_tuple_tup, wp_rev_lst, wp_rev_tup, wp_sl_lst, wp_sl_tup, wp_neg, wp_listOf, wp_intOf, wp_iter_lst, wp_iter_tup, wp_lt_int, wp_gt_int, wp_le_int, wp_ge_int, bind_nm, bind_tup, set_nil, set_cons, List.set_cons_zero, List.set_cons_succ, List.map_cons, List.map_nil, List.cons_append, List.nil_append, List.replicate, ne_eq, not_true_eq_false, not_false_eq_true, true_implies, false_implies, true_and, and_true, reduceCtorEq, truth, decide_eq_true_eq, endOf, ix1_0, ix2_0, ix2_1, ix3_0, ix3_1, ix3_2, mut_int, List.length_cons, List.length_nil, Nat.reduceAdd, Nat.zero_add, List.getElem?_cons_zero, List.getElem?_cons_succ, ↓reduceIte, Option.getD_none, Option.getD_some, Bool.not_false, Bool.not_true, Bool.false_eq_true, true_or, or_true, implies_true, forall_const, Option.map_some]
  refine ⟨_, hX, ?_⟩
  refine wS_while (fun k e => ∃ (D' : T) (l' : List Tx), e = [some D', some X, some (.lst (l'.map .str))] ∧ k = l'.length ∧ (∀ s ∈ l', s ∈ l) ∧ l'.length ≤ l.length ∧ Deck (c + 2 * (m - l'.length)) D') (m := l.length) ⟨D, l, rfl, rfl, fun _ h => h, Nat.le_refl _, hD.imp (by omega)⟩ (Nat.lt_of_le_of_lt (Nat.le_trans hl hm) (by decide)) ?_
  rintro k e ⟨D', l', rfl, rfl, hs, hle, hd⟩
  simp only [wB_cons, wB_nil, wS_asg, wS_par, wS_setix, wS_aug, wS_expr, wS_ret, wS_ite, wS_frz, wE_nm, wE_con, wE_bin, wE_neg, wE_cmp, wE_and, wE_or, wE_not, wE_ite, wE_tup, wE_lst, wE_ix, wE_sl, wE_rev, wE_call, wE_callio, wE_callk, wE_bi, wE_lrg, wE_pop, wE_popp, wE_app, wE_appp, wE_rem, wE_ixs, wE_dne, wEs_nil, wEs_cons, wO_none, wO_some, wI_ex, wI_enum, wI_range, wC_nil, wC_cons, wp_some, wp_map, getV_zero, getV_succ, opT, biT, cmpT, wp_add_int, wp_add_lst, wp_add_tup, wp_add_str, wp_sub_int, wp_mul_int, wp_mul_lst, wp_mul_str, wp_fdiv, wp_mod, wp_pow, wp_len_lst, wp_len_tup, wp_list_lst, wp_list_tup, wp_tuple_lst, wp_tuple_tup, wp_rev_lst, wp_rev_tup, wp_sl_lst, wp_sl_tup, wp_neg, wp_listOf, wp_intOf, wp_iter_lst, wp_iter_tup, wp_lt_int, wp_gt_int, wp_le_int, wp_ge_int, bind_nm, bind_tup, set_nil, set_cons, List.set_cons_zero, List.set_cons_succ, List.map_cons, List.map_nil, List.cons_append, List.nil_append, List.replicate, ne_eq, not_true_eq_false, not_false_eq_true, true_implies, false_implies, true_and, and_true, reduceCtorEq, truth, decide_eq_true_eq, endOf, ix1_0, ix2_0, ix2_1, ix3_0, ix3_1, ix3_2, mut_int, List.length_cons, List.length_nil, Nat.reduceAdd, Nat.zero_add, List.getElem?_cons_zero, List.getElem?_cons_succ, ↓reduceIte, Option.getD_none, Option.getD_some, Bool.not_false, Bool.not_true, Bool.false_eq_true, true_or, or_true, implies_true, forall_const, Option.map_some, wp_eq_nil, pl_strs, List.isEmpty_map]
  have Z : (¬(!l'.isEmpty) = true) → l' = [] := fun z => by simpa using z
  refine ⟨fun z => ?_, fun z => ⟨fun y => absurd y z, fun _ => h l' D' hs hle (hd.imp (by omega))⟩⟩
  have pos : 0 < l'.length := by
    cases l' with
    | nil => simp at z
    | cons => simp
  refine draw hd (by omega) (by omega) (by omega) fun r D2 hr hd2 => ?_
  simp only [wB_cons, wB_nil, wS_asg, wS_par, wS_setix, wS_aug, wS_expr, wS_ret, wS_ite, wS_frz, wE_nm, wE_con, wE_bin, wE_neg, wE_cmp, wE_and, wE_or, wE_not, wE_ite, wE_tup, wE_lst, wE_ix, wE_sl, wE_rev, wE_call, wE_callio, wE_callk, wE_bi, wE_lrg, wE_pop, wE_popp, wE_app, wE_appp, wE_rem, wE_ixs, wE_dne, wEs_nil, wEs_cons, wO_none, wO_some, wI_ex, wI_enum, wI_range, wC_nil, wC_cons, wp_some, wp_map, getV_zero, getV_succ, opT, biT, cmpT, wp_add_int, wp_add_lst, wp_add_tup, wp_add_str, wp_sub_int, wp_mul_int, wp_mul_lst, wp_mul_str, wp_fdiv, wp_mod, wp_pow, wp_len_lst, wp_len_tup, wp_list_lst, wp_list_tup, wp_tuple_lst, wp_tuple_tup, wp_rev_lst, wp_rev_tup, wp_sl_lst, wp_sl_tup, wp_neg, wp_listOf, wp_intOf, wp_iter_lst, wp_iter_tup, wp_lt_int, wp_gt_int, wp_le_int, wp_ge_int, bind_nm, bind_tup, set_nil, set_cons, List.set_cons_zero, List.set_cons_succ, List.map_cons, List.map_nil, List.cons_append, List.nil_append, List.replicate, ne_eq, not_true_eq_false, not_false_eq_true, true_implies, false_implies, true_and, and_true, reduceCtorEq, truth, decide_eq_true_eq, endOf, ix1_0, ix2_0, ix2_1, ix3_0, ix3_1, ix3_2, mut_int, List.length_cons, List.length_nil, Nat.reduceAdd, Nat.zero_add, List.getElem?_cons_zero, List.getElem?_cons_succ, ↓reduceIte, Option.getD_none, Option.getD_some, Bool.not_false, Bool.not_true, Bool.false_eq_true, true_or, or_true, implies_true, forall_const, Option.map_some]
  refine ⟨fun _ => ?_, fun _ => h l' D2 hs hle (hd2.imp (by omega))⟩
  simp only [wB_cons, wB_nil, wS_asg, wS_par, wS_setix, wS_aug, wS_expr, wS_ret, wS_ite, wS_frz, wE_nm, wE_con, wE_bin, wE_neg, wE_cmp, wE_and, wE_or, wE_not, wE_ite, wE_tup, wE_lst, wE_ix, wE_sl, wE_rev, wE_call, wE_callio, wE_callk, wE_bi, wE_lrg, wE_pop, wE_popp, wE_app, wE_appp, wE_rem, wE_ixs, wE_dne, wEs_nil, wEs_cons, wO_none, wO_some, wI_ex, wI_enum, wI_range, wC_nil, wC_cons, wp_some, wp_map, getV_zero, getV_succ, opT, biT, cmpT, wp_add_int, wp_add_lst, wp_add_tup, wp_add_str, wp_sub_int, wp_mul_int, wp_mul_lst, wp_mul_str, wp_fdiv, wp_mod, wp_pow, wp_len_lst, wp_len_tup, wp_list_lst, wp_list_tup, wp_tuple_lst, wp_tuple_tup, wp_rev_lst, wp_rev_tup, wp_sl_lst, wp_sl_tup, wp_neg, wp_listOf, wp_intOf, wp_iter_lst, wp_iter_tup, wp_lt_int, wp_gt_int, wp_le_int, wp_ge_int, bind_nm, bind_tup, set_nil, set_cons, List.set_cons_zero, List.set_cons_succ, List.map_cons, List.map_nil, List.cons_append, List.nil_append, List.replicate, ne_eq, not_true_eq_false, not_false_eq_true, true_implies, false_implies, true_and, and_true, reduceCtorEq, truth, decide_eq_true_eq, endOf, ix1_0, ix2_0, ix2_1, ix3_0, ix3_1, ix3_2, mut_int, List.length_cons, List.length_nil, Nat.reduceAdd, Nat.zero_add, List.getElem?_cons_zero, List.getElem?_cons_succ, ↓reduceIte, Option.getD_none, Option.getD_some, Bool.not_false, Bool.not_true, Bool.false_eq_true, true_or, or_true, implies_true, forall_const, Option.map_some, List.length_map]
  refine draw hd2 (by omega) (by omega) (by omega) fun k D3 hk hd3 => ?_
  have hk' : k < l'.length := by omega
  simp only [wB_cons, wB_nil, wS_asg, wS_par, wS_setix, wS_aug, wS_expr, wS_ret, wS_ite, wS_frz, wE_nm, wE_con, wE_bin, wE_neg, wE_cmp, wE_and, wE_or, wE_not, wE_ite, wE_tup, wE_lst, wE_ix, wE_sl, wE_rev, wE_call, wE_callio, wE_callk, wE_bi, wE_lrg, wE_pop, wE_popp, wE_app, wE_appp, wE_rem, wE_ixs, wE_dne, wEs_nil, wEs_cons, wO_none, wO_some, wI_ex, wI_enum, wI_range, wC_nil, wC_cons, wp_some, wp_map, getV_zero, getV_succ, opT, biT, cmpT, wp_add_int, wp_add_lst, wp_add_tup, wp_add_str, wp_sub_int, wp_mul_int, wp_mul_lst, wp_mul_str, wp_fdiv, wp_mod, wp_pow, wp_len_lst, wp_len_tup, wp_list_lst, wp_list_tup, wp_tuple_lst, wp_tuple_tup, wp_rev_lst, wp_rev_tup, wp_sl_lst, wp_sl_tup, wp_neg, wp_listOf, wp_intOf, wp_iter_lst, wp_iter_tup, wp_lt_int, wp_gt_int, wp_le_int, wp_ge_int, bind_nm, bind_tup, set_nil, set_cons, List.set_cons_zero, List.set_cons_succ, List.map_cons, List.map_nil, List.cons_append, List.nil_append, List.replicate, ne_eq, not_true_eq_false, not_false_eq_true, true_implies, false_implies, true_and, and_true, reduceCtorEq, truth, decide_eq_true_eq, endOf, ix1_0, ix2_0, ix2_1, ix3_0, ix3_1, ix3_2, mut_int, List.length_cons, List.length_nil, Nat.reduceAdd, Nat.zero_add, List.getElem?_cons_zero, List.getElem?_cons_succ, ↓reduceIte, Option.getD_none, Option.getD_some, Bool.not_false, Bool.not_true, Bool.false_eq_true, true_or, or_true, implies_true, forall_const, Option.map_some]
  refine ⟨_, popL_at (by rw [List.length_map]; exact hk') (by rw [List.length_map]; omega), (l'.eraseIdx k).length, ?_, D3, l'.eraseIdx k, ?_, rfl, fun s m => hs s (List.mem_of_mem_eraseIdx m), ?_, ?_⟩
  · rw [List.length_eraseIdx_of_lt hk']; omega
  · rw [map_erase]
  · rw [List.length_eraseIdx_of_lt hk']; omega
  · rw [List.length_eraseIdx_of_lt hk']; exact hd3.imp (by omega)
end K10
end

section
set_option Elab.async false
set_option linter.all false
set_option maxRecDepth 100000
set_option maxHeartbeats 4000000
/-! K10T: _law_tree, _law_eaten_sets: sets that are eaten up. -/
namespace K10
open Pv Gyo
open L2 (ixN)
def tL (s : List Tx) : T := .lst (s.map .str)
/-- signs are dealt to so many lots -/
structure Deal (cl todo : List Tx) (F : List (List Tx)) (lots : Nat) : Prop where
  n : F.length = lots
  dis : ∀ i j (hi : i < F.length) (hj : j < F.length), i ≠ j → ∀ s ∈ F[i], s ∉ F[j]
  w : ∀ f ∈ F, f.length + todo.length ≤ 8
  sub : ∀ f ∈ F, ∀ s ∈ f, s ∈ cl ∧ s ∉ todo
  nd : todo.Nodup
  tsub : ∀ s ∈ todo, s ∈ cl
theorem Deal.step {cl todo : List Tx} {F : List (List Tx)} {lots k : Nat} {s : Tx} (d : Deal cl (s :: todo) F lots) (hk : k < F.length) : Deal cl todo (F.set k (F[k] ++ [s])) lots := by
  have hs : ∀ i (hi : i < F.length), s ∉ F[i] := fun i hi h => (d.sub _ (List.getElem_mem hi) s h).2 (.head _)
  have nd := List.nodup_cons.mp d.nd
  refine ⟨by rw [List.length_set]; exact d.n, fun i j hi hj ne x hx hx' => ?_, fun f hf => ?_, fun f hf x hx => ?_, nd.2, fun x hx => d.tsub x (.tail _ hx)⟩
  · rw [List.length_set] at hi hj
    rw [List.getElem_set] at hx hx'
    split at hx <;> split at hx'
    · omega
    · rename_i e _
      subst e
      rcases List.mem_append.mp hx with h | h
      · exact d.dis _ _ hi hj ne x h hx'
      · rw [List.mem_singleton.mp h] at hx'; exact hs _ hj hx'
    · rename_i _ e
      subst e
      rcases List.mem_append.mp hx' with h | h
      · exact d.dis _ _ hi hj ne x hx h
      · rw [List.mem_singleton.mp h] at hx; exact hs _ hi hx
    · exact d.dis _ _ hi hj ne x hx hx'
  · rcases List.mem_or_eq_of_mem_set hf with h | h
    · have := d.w f h; rw [List.length_cons] at this; omega
    · have := d.w _ (List.getElem_mem hk)
      rw [List.length_cons] at this
      rw [h, List.length_append]
      simp only [List.length_cons, List.length_nil]
      omega
  · rcases List.mem_or_eq_of_mem_set hf with h | h
    · have := d.sub f h x hx
      exact ⟨this.1, fun z => this.2 (.tail _ z)⟩
    · rw [h] at hx
      rcases List.mem_append.mp hx with h | h
      · have := d.sub _ (List.getElem_mem hk) x h
        exact ⟨this.1, fun z => this.2 (.tail _ z)⟩
      · rw [List.mem_singleton.mp h]
        exact ⟨d.tsub s (.head _), nd.1⟩
/-- the sets found, the signs of those to come -/
structure Tree (cl : List Tx) (found R : List (List Tx)) (lots : Nat) : Prop where
  red : Red found
  w : ∀ g ∈ found, g.length ≤ 8 * found.length
  n : found.length + R.length = lots
  sub : ∀ g ∈ found, ∀ s ∈ g, s ∈ cl
  new : ∀ g ∈ found, ∀ s ∈ g, ∀ f ∈ R, s ∉ f
  dis : R.Pairwise fun a b => ∀ s ∈ a, s ∉ b
  rw_ : ∀ f ∈ R, f.length ≤ 8
  rsub : ∀ f ∈ R, ∀ s ∈ f, s ∈ cl
theorem Deal.tree {cl : List Tx} {F : List (List Tx)} {lots : Nat} (d : Deal cl [] F lots) : Tree cl [] F lots :=
  ⟨.small (Nat.zero_le _), (fun _ h => by cases h), (by rw [← d.n]; exact Nat.zero_add _), (fun _ h => by cases h), (fun _ h => by cases h),
    List.pairwise_iff_getElem.mpr fun i j hi hj lt => d.dis i j hi hj (Nat.ne_of_lt lt), (fun f hf => d.w f hf), fun f hf s hs => (d.sub f hf s hs).1⟩
theorem Tree.step {cl new hang : List Tx} {f : List Tx} {found R : List (List Tx)} {lots : Nat} (t : Tree cl found (f :: R) lots) (hp : new.Perm (f ++ hang))
    (hh : hang = [] ∧ found = [] ∨ ∃ p ∈ found, (∀ s ∈ hang, s ∈ p) ∧ hang.length ≤ p.length) : Tree cl (found ++ [new]) R lots := by
  have hl : new.length = f.length + hang.length := by rw [hp.length_eq, List.length_append]
  have hf : f.length ≤ 8 := t.rw_ f (.head _)
  have hm : ∀ s, s ∈ new ↔ s ∈ f ∨ s ∈ hang := fun s => hp.mem_iff.trans List.mem_append
  have hn : ∀ s ∈ new, s ∈ f ∨ ∃ p ∈ found, s ∈ p := fun s h => by
    rcases (hm s).mp h with h | h
    · exact .inl h
    · rcases hh with ⟨e, _⟩ | ⟨p, hp, k, _⟩
      · rw [e] at h; cases h
      · exact .inr ⟨p, hp, k s h⟩
  have dis := List.pairwise_cons.mp t.dis
  refine ⟨?_, fun g hg => ?_, ?_, fun g hg s hs => ?_, fun g hg s hs r hr => ?_, dis.2, fun r hr => t.rw_ r (.tail _ hr), fun r hr => t.rsub r (.tail _ hr)⟩
  · rcases hh with ⟨_, e⟩ | ⟨p, hpf, k, _⟩
    · rw [e]; exact .small (Nat.le_refl _)
    · refine t.red.more ⟨p, hpf, fun s hs ⟨c, hc, sc⟩ => ?_⟩
      rcases (hm s).mp hs with h | h
      · exact absurd h (t.new c hc s sc f (.head _))
      · exact k s h
  · rw [List.length_append]
    simp only [List.length_cons, List.length_nil]
    rcases List.mem_append.mp hg with h | h
    · have := t.w g h; omega
    · rw [List.mem_singleton.mp h, hl]
      rcases hh with ⟨e, _⟩ | ⟨p, hpf, _, k⟩
      · rw [e, List.length_nil]; omega
      · have := t.w p hpf; omega
  · have := t.n
    rw [List.length_append]
    simp only [List.length_cons, List.length_nil] at this ⊢
    omega
  · rcases List.mem_append.mp hg with h | h
    · exact t.sub g h s hs
    · rw [List.mem_singleton.mp h] at hs
      rcases hn s hs with h | ⟨p, hp, h⟩
      · exact t.rsub f (.head _) s h
      · exact t.sub p hp s h
  · rcases List.mem_append.mp hg with h | h
    · exact t.new g h s hs r (.tail _ hr)
    · rw [List.mem_singleton.mp h] at hs
      rcases hn s hs with h | ⟨p, hp, h⟩
      · exact dis.1 r hr s h
      · exact t.new p hp s h r (.tail _ hr)
theorem pl_tS {S : List (List Tx)} : Ts.pl (S.map tS) = true := pl_map fun g _ => pl_strs
theorem list_tS {g : List Tx} {Q : T → Prop} : wp (listT [tS g]) Q ↔ Q (.lst (g.map .str)) := wp_some
theorem tree {n c lots : Nat} {D : T} {cl : List Tx} {P : T → Option T → Prop} (hD : Deck c D) (hc : c ≤ 800000) (hnd : cl.Nodup) (hl : cl.length ≤ 8) (h0 : 0 < lots) (h1 : lots ≤ 7)
    (h : ∀ (F : List (List Tx)) (D' : T), Red F → F.length = lots → (∀ g ∈ F, g.length ≤ 56 ∧ ∀ s ∈ g, s ∈ cl) → Deck (c + 2000) D' → P (.lst (F.map tS)) (some D')) : wK (callN tbl (n + 3)) 7 [D, .lst (cl.map .str), .int (lots : Int)] P := by
  refine wK_fn (d := f7) rfl rfl ?_
  unfold f7
  simp only [wB_cons, wB_nil, wS_asg, wS_par, wS_setix, wS_aug, wS_expr, wS_ret, wS_ite, wS_frz, wE_nm, wE_con, wE_bin, wE_neg, wE_cmp, wE_and, wE_or, wE_not, wE_ite, wE_tup, wE_lst, wE_ix, wE_sl, wE_rev, wE_call, wE_callio, wE_callk, wE_bi, wE_lrg, wE_pop, wE_popp, wE_app, wE_appp, wE_rem, wE_ixs, wE_dne, wEs_nil, wEs_cons, wO_none, wO_some, wI_ex, wI_enum, wI_range, wC_nil, wC_cons, wp_some, wp_map, getV_zero, getV_succ, opT, biT, cmpT, wp_add_int, wp_add_lst, wp_add_tup, wp_add_str, wp_sub_int, wp_mul_int, wp_mul_lst, wp_mul_str, wp_fdiv, wp_mod, wp_pow, wp_len_lst, wp_len_tup, wp_list_lst, wp_list_tup, wp_tuple_lst, wp_tuple_tup, wp_rev_lst, wp_rev_tup, wp_sl_lst, wp_sl_tup, wp_neg, wp_listOf, wp_intOf, wp_iter_lst, wp_iter_tup, wp_lt_int, wp_gt_int, wp_le_int, wp_ge_int, bind_nm, bind_tup, set_nil, set_cons, List.set_cons_zero, List.set_cons_succ, List.map_cons, List.map_nil, List.cons_append, List.nil_append, List.replicate, ne_eq, not_true_eq_false, not_false_eq_true, true_implies, false_implies, true_and, and_true, reduceCtorEq, truth, decide_eq_true_eq, endOf, ix1_0, ix2_0, ix2_1, ix3_0, ix3_1, ix3_2, mut_int, List.length_cons, List.length_nil, Nat.reduceAdd, Nat.zero_add, List.getElem?_cons_zero, List.getElem?_cons_succ, ↓reduceIte, Option.getD_none, Option.getD_some, Bool.not_false, Bool.not_true, Bool.false_eq_true, true_or, or_true, implies_true, forall_const, Option.map_some]
  refine wE_map (List.range lots) (fun k : Nat => T.int (0 + (k : Int))) (fun _ => tL []) ?_
  simp only [wB_cons, wB_nil, wS_asg, wS_par, wS_setix, wS_aug, wS_expr, wS_ret, wS_ite, wS_frz, wE_nm, wE_con, wE_bin, wE_neg, wE_cmp, wE_and, wE_or, wE_not, wE_ite, wE_tup, wE_lst, wE_ix, wE_sl, wE_rev, wE_call, wE_callio, wE_callk, wE_bi, wE_lrg, wE_pop, wE_popp, wE_app, wE_appp, wE_rem, wE_ixs, wE_dne, wEs_nil, wEs_cons, wO_none, wO_some, wI_ex, wI_enum, wI_range, wC_nil, wC_cons, wp_some, wp_map, getV_zero, getV_succ, opT, biT, cmpT, wp_add_int, wp_add_lst, wp_add_tup, wp_add_str, wp_sub_int, wp_mul_int, wp_mul_lst, wp_mul_str, wp_fdiv, wp_mod, wp_pow, wp_len_lst, wp_len_tup, wp_list_lst, wp_list_tup, wp_tuple_lst, wp_tuple_tup, wp_rev_lst, wp_rev_tup, wp_sl_lst, wp_sl_tup, wp_neg, wp_listOf, wp_intOf, wp_iter_lst, wp_iter_tup, wp_lt_int, wp_gt_int, wp_le_int, wp_ge_int, bind_nm, bind_tup, set_nil, set_cons, List.set_cons_zero, List.set_cons_succ, List.map_cons, List.map_nil, List.cons_append, List.nil_append, List.replicate, ne_eq, not_true_eq_false, not_false_eq_true, true_implies, false_implies, true_and, and_true, reduceCtorEq, truth, decide_eq_true_eq, endOf, ix1_0, ix2_0, ix2_1, ix3_0, ix3_1, ix3_2, mut_int, List.length_cons, List.length_nil, Nat.reduceAdd, Nat.zero_add, List.getElem?_cons_zero, List.getElem?_cons_succ, ↓reduceIte, Option.getD_none, Option.getD_some, Bool.not_false, Bool.not_true, Bool.false_eq_true, true_or, or_true, implies_true, forall_const, Option.map_some, Pat.slots, wipeE]
  refine ⟨?_, ?_, fun k hk => rfl, ?_, ?_⟩
  · rw [decide_eq_true (by omega), decide_eq_true (by omega)]; rfl
  · rw [Int.toNat_natCast]
  · rw [List.length_range]; omega
  refine wS_form cl T.str (fun done e => ∃ (D' : T) (x4 : Option T) (F : List (List Tx)), e = [some D', some (.lst (cl.map .str)), some (.int (lots : Int)), some (.lst (F.map tL)), x4, none, none, none, none] ∧ Deck (c + done.length) D' ∧ ∃ todo, cl = done ++ todo ∧ Deal cl todo F lots) ?_
  simp only [wB_cons, wB_nil, wS_asg, wS_par, wS_setix, wS_aug, wS_expr, wS_ret, wS_ite, wS_frz, wE_nm, wE_con, wE_bin, wE_neg, wE_cmp, wE_and, wE_or, wE_not, wE_ite, wE_tup, wE_lst, wE_ix, wE_sl, wE_rev, wE_call, wE_callio, wE_callk, wE_bi, wE_lrg, wE_pop, wE_popp, wE_app, wE_appp, wE_rem, wE_ixs, wE_dne, wEs_nil, wEs_cons, wO_none, wO_some, wI_ex, wI_enum, wI_range, wC_nil, wC_cons, wp_some, wp_map, getV_zero, getV_succ, opT, biT, cmpT, wp_add_int, wp_add_lst, wp_add_tup, wp_add_str, wp_sub_int, wp_mul_int, wp_mul_lst, wp_mul_str, wp_fdiv, wp_mod, wp_pow, wp_len_lst, wp_len_tup, wp_list_lst, wp_list_tup, wp_tuple_lst, wp_tuple_tup, wp_rev_lst, wp_rev_tup, wp_sl_lst, wp_sl_tup, wp_neg, wp_listOf, wp_intOf, wp_iter_lst, wp_iter_tup, wp_lt_int, wp_gt_int, wp_le_int, wp_ge_int, bind_nm, bind_tup, set_nil, set_cons, List.set_cons_zero, List.set_cons_succ, List.map_cons, List.map_nil, List.cons_append, List.nil_append, List.replicate, ne_eq, not_true_eq_false, not_false_eq_true, true_implies, false_implies, true_and, and_true, reduceCtorEq, truth, decide_eq_true_eq, endOf, ix1_0, ix2_0, ix2_1, ix3_0, ix3_1, ix3_2, mut_int, List.length_cons, List.length_nil, Nat.reduceAdd, Nat.zero_add, List.getElem?_cons_zero, List.getElem?_cons_succ, ↓reduceIte, Option.getD_none, Option.getD_some, Bool.not_false, Bool.not_true, Bool.false_eq_true, true_or, or_true, implies_true, forall_const, Option.map_some]
  refine ⟨⟨D, none, List.replicate lots [], ?_, hD, cl, rfl, ?_⟩, ?_, ?_⟩
  · rw [List.map_replicate, List.map_const', List.length_range]
  · refine ⟨List.length_replicate, fun i j hi hj _ s hs => ?_, fun f hf => ?_, fun f hf s hs => ?_, hnd, fun _ h => h⟩
    · rw [List.getElem_replicate] at hs; cases hs
    · rw [(List.mem_replicate.mp hf).2]; simpa using hl
    · rw [(List.mem_replicate.mp hf).2] at hs; cases hs
  · rintro s done rest e el ⟨D', x4, F, rfl, hd, todo, et, dl⟩
    have e2 : todo = s :: rest := List.append_cancel_left (et.symm.trans el)
    subst e2
    have dn : done.length ≤ 8 := by
      have := congrArg List.length el
      rw [List.length_append] at this
      omega
    simp only [wB_cons, wB_nil, wS_asg, wS_par, wS_setix, wS_aug, wS_expr, wS_ret, wS_ite, wS_frz, wE_nm, wE_con, wE_bin, wE_neg, wE_cmp, wE_and, wE_or, wE_not, wE_ite, wE_tup, wE_lst, wE_ix, wE_sl, wE_rev, wE_call, wE_callio, wE_callk, wE_bi, wE_lrg, wE_pop, wE_popp, wE_app, wE_appp, wE_rem, wE_ixs, wE_dne, wEs_nil, wEs_cons, wO_none, wO_some, wI_ex, wI_enum, wI_range, wC_nil, wC_cons, wp_some, wp_map, getV_zero, getV_succ, opT, biT, cmpT, wp_add_int, wp_add_lst, wp_add_tup, wp_add_str, wp_sub_int, wp_mul_int, wp_mul_lst, wp_mul_str, wp_fdiv, wp_mod, wp_pow, wp_len_lst, wp_len_tup, wp_list_lst, wp_list_tup, wp_tuple_lst, wp_tuple_tup, wp_rev_lst, wp_rev_tup, wp_sl_lst, wp_sl_tup, wp_neg, wp_listOf, wp_intOf, wp_iter_lst, wp_iter_tup, wp_lt_int, wp_gt_int, wp_le_int, wp_ge_int, bind_nm, bind_tup, set_nil, set_cons, List.set_cons_zero, List.set_cons_succ, List.map_cons, List.map_nil, List.cons_append, List.nil_append, List.replicate, ne_eq, not_true_eq_false, not_false_eq_true, true_implies, false_implies, true_and, and_true, reduceCtorEq, truth, decide_eq_true_eq, endOf, ix1_0, ix2_0, ix2_1, ix3_0, ix3_1, ix3_2, mut_int, List.length_cons, List.length_nil, Nat.reduceAdd, Nat.zero_add, List.getElem?_cons_zero, List.getElem?_cons_succ, ↓reduceIte, Option.getD_none, Option.getD_some, Bool.not_false, Bool.not_true, Bool.false_eq_true, true_or, or_true, implies_true, forall_const, Option.map_some]
    refine draw hd (by omega) (by omega) (by omega) fun r D2 hr hd2 => ?_
    have hr' : r < F.length := by rw [dl.n]; omega
    have wF := dl.w _ (List.getElem_mem hr')
    simp only [wB_cons, wB_nil, wS_asg, wS_par, wS_setix, wS_aug, wS_expr, wS_ret, wS_ite, wS_frz, wE_nm, wE_con, wE_bin, wE_neg, wE_cmp, wE_and, wE_or, wE_not, wE_ite, wE_tup, wE_lst, wE_ix, wE_sl, wE_rev, wE_call, wE_callio, wE_callk, wE_bi, wE_lrg, wE_pop, wE_popp, wE_app, wE_appp, wE_rem, wE_ixs, wE_dne, wEs_nil, wEs_cons, wO_none, wO_some, wI_ex, wI_enum, wI_range, wC_nil, wC_cons, wp_some, wp_map, getV_zero, getV_succ, opT, biT, cmpT, wp_add_int, wp_add_lst, wp_add_tup, wp_add_str, wp_sub_int, wp_mul_int, wp_mul_lst, wp_mul_str, wp_fdiv, wp_mod, wp_pow, wp_len_lst, wp_len_tup, wp_list_lst, wp_list_tup, wp_tuple_lst, wp_tuple_tup, wp_rev_lst, wp_rev_tup, wp_sl_lst, wp_sl_tup, wp_neg, wp_listOf, wp_intOf, wp_iter_lst, wp_iter_tup, wp_lt_int, wp_gt_int, wp_le_int, wp_ge_int, bind_nm, bind_tup, set_nil, set_cons, List.set_cons_zero, List.set_cons_succ, List.map_cons, List.map_nil, List.cons_append, List.nil_append, List.replicate, ne_eq, not_true_eq_false, not_false_eq_true, true_implies, false_implies, true_and, and_true, reduceCtorEq, truth, decide_eq_true_eq, endOf, ix1_0, ix2_0, ix2_1, ix3_0, ix3_1, ix3_2, mut_int, List.length_cons, List.length_nil, Nat.reduceAdd, Nat.zero_add, List.getElem?_cons_zero, List.getElem?_cons_succ, ↓reduceIte, Option.getD_none, Option.getD_some, Bool.not_false, Bool.not_true, Bool.false_eq_true, true_or, or_true, implies_true, forall_const, Option.map_some, List.length_map, ixN_nn hr', List.getElem?_map, List.getElem?_eq_getElem hr', tL]
    refine ⟨okLen_of (by omega), D2, some (.str s), F.set r (F[r] ++ [s]), ?_, hd2.imp (by rw [List.length_append]; simp only [List.length_cons, List.length_nil]; omega), rest, ?_, dl.step hr'⟩
    · have e : (F.map tL).set r (.lst (F[r].map .str ++ [.str s])) = (F.set r (F[r] ++ [s])).map tL := by
        rw [List.map_set]
        congr 1
        unfold tL
        rw [List.map_append]
        rfl
      rw [← e]
    · rw [List.append_assoc]; exact el
  · rintro e ⟨D', x4, F, rfl, hd, todo, et, dl⟩
    have e2 : todo = [] := by
      have := congrArg List.length et
      rw [List.length_append] at this
      exact List.length_eq_zero_iff.mp (by omega)
    subst e2
    simp only [wB_cons, wB_nil, wS_asg, wS_par, wS_setix, wS_aug, wS_expr, wS_ret, wS_ite, wS_frz, wE_nm, wE_con, wE_bin, wE_neg, wE_cmp, wE_and, wE_or, wE_not, wE_ite, wE_tup, wE_lst, wE_ix, wE_sl, wE_rev, wE_call, wE_callio, wE_callk, wE_bi, wE_lrg, wE_pop, wE_popp, wE_app, wE_appp, wE_rem, wE_ixs, wE_dne, wEs_nil, wEs_cons, wO_none, wO_some, wI_ex, wI_enum, wI_range, wC_nil, wC_cons, wp_some, wp_map, getV_zero, getV_succ, opT, biT, cmpT, wp_add_int, wp_add_lst, wp_add_tup, wp_add_str, wp_sub_int, wp_mul_int, wp_mul_lst, wp_mul_str, wp_fdiv, wp_mod, wp_pow, wp_len_lst, wp_len_tup, wp_list_lst, wp_list_tup, wp_tuple_lst, wp_tuple_tup, wp_rev_lst, wp_rev_tup, wp_sl_lst, wp_sl_tup, wp_neg, wp_listOf, wp_intOf, wp_iter_lst, wp_iter_tup, wp_lt_int, wp_gt_int, wp_le_int, wp_ge_int, bind_nm, bind_tup, set_nil, set_cons, List.set_cons_zero, List.set_cons_succ, List.map_cons, List.map_nil, List.cons_append, List.nil_append, List.replicate, ne_eq, not_true_eq_false, not_false_eq_true, true_implies, false_implies, true_and, and_true, reduceCtorEq, truth, decide_eq_true_eq, endOf, ix1_0, ix2_0, ix2_1, ix3_0, ix3_1, ix3_2, mut_int, List.length_cons, List.length_nil, Nat.reduceAdd, Nat.zero_add, List.getElem?_cons_zero, List.getElem?_cons_succ, ↓reduceIte, Option.getD_none, Option.getD_some, Bool.not_false, Bool.not_true, Bool.false_eq_true, true_or, or_true, implies_true, forall_const, Option.map_some]
    refine wS_form F tL (fun done e => ∃ (D' : T) (x6 x7 : Option T) (found : List (List Tx)), e = [some D', some (.lst (cl.map .str)), some (.int (lots : Int)), some (.lst (F.map tL)), x4, some (.lst (found.map tS)), x6, x7, none] ∧ Deck (c + 8 + 200 * done.length) D' ∧ found.length = done.length ∧ ∃ R, F = done ++ R ∧ Tree cl found R lots) ?_
    simp only [wB_cons, wB_nil, wS_asg, wS_par, wS_setix, wS_aug, wS_expr, wS_ret, wS_ite, wS_frz, wE_nm, wE_con, wE_bin, wE_neg, wE_cmp, wE_and, wE_or, wE_not, wE_ite, wE_tup, wE_lst, wE_ix, wE_sl, wE_rev, wE_call, wE_callio, wE_callk, wE_bi, wE_lrg, wE_pop, wE_popp, wE_app, wE_appp, wE_rem, wE_ixs, wE_dne, wEs_nil, wEs_cons, wO_none, wO_some, wI_ex, wI_enum, wI_range, wC_nil, wC_cons, wp_some, wp_map, getV_zero, getV_succ, opT, biT, cmpT, wp_add_int, wp_add_lst, wp_add_tup, wp_add_str, wp_sub_int, wp_mul_int, wp_mul_lst, wp_mul_str, wp_fdiv, wp_mod, wp_pow, wp_len_lst, wp_len_tup, wp_list_lst, wp_list_tup, wp_tuple_lst, wp_tuple_tup, wp_rev_lst, wp_rev_tup, wp_sl_lst, wp_sl_tup, wp_neg, wp_listOf, wp_intOf, wp_iter_lst, wp_iter_tup, wp_lt_int, wp_gt_int, wp_le_int, wp_ge_int, bind_nm, bind_tup, set_nil, set_cons, List.set_cons_zero, List.set_cons_succ, List.map_cons, List.map_nil, List.cons_append, List.nil_append, List.replicate, ne_eq, not_true_eq_false, not_false_eq_true, true_implies, false_implies, true_and, and_true, reduceCtorEq, truth, decide_eq_true_eq, endOf, ix1_0, ix2_0, ix2_1, ix3_0, ix3_1, ix3_2, mut_int, List.length_cons, List.length_nil, Nat.reduceAdd, Nat.zero_add, List.getElem?_cons_zero, List.getElem?_cons_succ, ↓reduceIte, Option.getD_none, Option.getD_some, Bool.not_false, Bool.not_true, Bool.false_eq_true, true_or, or_true, implies_true, forall_const, Option.map_some]
    refine ⟨⟨D', none, none, [], rfl, hd.imp (by omega), rfl, F, rfl, dl.tree⟩, ?_, ?_⟩
    · rintro f done rest e el ⟨D2, x6, x7, found, rfl, hd2, fl, R, eR, tr⟩
      have e2 : R = f :: rest := List.append_cancel_left (eR.symm.trans el)
      subst e2
      have fn := tr.n
      rw [List.length_cons] at fn
      have key : ∀ (hang : List Tx) (D3 : T), Deck (c + 8 + 200 * (done.length + 1)) D3 → (hang = [] ∧ found = [] ∨ ∃ p ∈ found, (∀ s ∈ hang, s ∈ p) ∧ hang.length ≤ p.length) →
          okLen (f.length + hang.length) = true ∧ wp (sortedT [.lst (f.map .str ++ hang.map .str)]) fun z => wp (tupleT [z]) fun z => okLen (found.length + 1) = true ∧ ∃ D' x6 x7 found', [some D3, some (.lst (cl.map .str)), some (.int (lots : Int)), some (.lst (F.map tL)), x4, some (.lst (found.map tS ++ [z])), some (tL f), some (.lst (hang.map .str)), none] = [some D', some (.lst (cl.map .str)), some (.int (lots : Int)), some (.lst (F.map tL)), x4, some (.lst (found'.map tS)), x6, x7, none] ∧ Deck (c + 8 + 200 * (done.length + 1)) D' ∧ found'.length = done.length + 1 ∧ ∃ R, F = done ++ [f] ++ R ∧ Tree cl found' R lots := by
        intro hang D3 hd3 hh
        have hf : f.length ≤ 8 := tr.rw_ f (.head _)
        have hg : hang.length ≤ 48 := by
          rcases hh with ⟨e, _⟩ | ⟨p, hp, _, k⟩
          · rw [e]; exact Nat.zero_le _
          · have := tr.w p hp; omega
        have st := tr.step (sortS_perm (f ++ hang)) hh
        refine ⟨okLen_of (by omega), ?_⟩
        rw [← List.map_append]
        refine ⟨_, sortT_strs (by rw [List.length_append]; omega), ?_⟩
        simp only [wB_cons, wB_nil, wS_asg, wS_par, wS_setix, wS_aug, wS_expr, wS_ret, wS_ite, wS_frz, wE_nm, wE_con, wE_bin, wE_neg, wE_cmp, wE_and, wE_or, wE_not, wE_ite, wE_tup, wE_lst, wE_ix, wE_sl, wE_rev, wE_call, wE_callio, wE_callk, wE_bi, wE_lrg, wE_pop, wE_popp, wE_app, wE_appp, wE_rem, wE_ixs, wE_dne, wEs_nil, wEs_cons, wO_none, wO_some, wI_ex, wI_enum, wI_range, wC_nil, wC_cons, wp_some, wp_map, getV_zero, getV_succ, opT, biT, cmpT, wp_add_int, wp_add_lst, wp_add_tup, wp_add_str, wp_sub_int, wp_mul_int, wp_mul_lst, wp_mul_str, wp_fdiv, wp_mod, wp_pow, wp_len_lst, wp_len_tup, wp_list_lst, wp_list_tup, wp_tuple_lst, wp_tuple_tup, wp_rev_lst, wp_rev_tup, wp_sl_lst, wp_sl_tup, wp_neg, wp_listOf, wp_intOf, wp_iter_lst, wp_iter_tup, wp_lt_int, wp_gt_int, wp_le_int, wp_ge_int, bind_nm, bind_tup, set_nil, set_cons, List.set_cons_zero, List.set_cons_succ, List.map_cons, List.map_nil, List.cons_append, List.nil_append, List.replicate, ne_eq, not_true_eq_false, not_false_eq_true, true_implies, false_implies, true_and, and_true, reduceCtorEq, truth, decide_eq_true_eq, endOf, ix1_0, ix2_0, ix2_1, ix3_0, ix3_1, ix3_2, mut_int, List.length_cons, List.length_nil, Nat.reduceAdd, Nat.zero_add, List.getElem?_cons_zero, List.getElem?_cons_succ, ↓reduceIte, Option.getD_none, Option.getD_some, Bool.not_false, Bool.not_true, Bool.false_eq_true, true_or, or_true, implies_true, forall_const, Option.map_some]
        refine ⟨okLen_of (by omega), D3, some (tL f), some (.lst (hang.map .str)), found ++ [sortS (f ++ hang)], ?_, hd3, ?_, rest, ?_, st⟩
        · rw [List.map_append]; rfl
        · rw [List.length_append, fl]; rfl
        · rw [List.append_assoc]; exact el
      unfold tL
      simp only [wB_cons, wB_nil, wS_asg, wS_par, wS_setix, wS_aug, wS_expr, wS_ret, wS_ite, wS_frz, wE_nm, wE_con, wE_bin, wE_neg, wE_cmp, wE_and, wE_or, wE_not, wE_ite, wE_tup, wE_lst, wE_ix, wE_sl, wE_rev, wE_call, wE_callio, wE_callk, wE_bi, wE_lrg, wE_pop, wE_popp, wE_app, wE_appp, wE_rem, wE_ixs, wE_dne, wEs_nil, wEs_cons, wO_none, wO_some, wI_ex, wI_enum, wI_range, wC_nil, wC_cons, wp_some, wp_map, getV_zero, getV_succ, opT, biT, cmpT, wp_add_int, wp_add_lst, wp_add_tup, wp_add_str, wp_sub_int, wp_mul_int, wp_mul_lst, wp_mul_str, wp_fdiv, wp_mod, wp_pow, wp_len_lst, wp_len_tup, wp_list_lst, wp_list_tup, wp_tuple_lst, wp_tuple_tup, wp_rev_lst, wp_rev_tup, wp_sl_lst, wp_sl_tup, wp_neg, wp_listOf, wp_intOf, wp_iter_lst, wp_iter_tup, wp_lt_int, wp_gt_int, wp_le_int, wp_ge_int, bind_nm, bind_tup, set_nil, set_cons, List.set_cons_zero, List.set_cons_succ, List.map_cons, List.map_nil, List.cons_append, List.nil_append, List.replicate, ne_eq, not_true_eq_false, not_false_eq_true, true_implies, false_implies, true_and, and_true, reduceCtorEq, truth, decide_eq_true_eq, endOf, ix1_0, ix2_0, ix2_1, ix3_0, ix3_1, ix3_2, mut_int, List.length_cons, List.length_nil, Nat.reduceAdd, Nat.zero_add, List.getElem?_cons_zero, List.getElem?_cons_succ, ↓reduceIte, Option.getD_none, Option.getD_some, Bool.not_false, Bool.not_true, Bool.false_eq_true, true_or, or_true, implies_true, forall_const, Option.map_some, wp_eq_nil, pl_tS, List.isEmpty_map]
      have dd : (done ++ [f]).length = done.length + 1 := by rw [List.length_append]; rfl
      rw [dd]
      refine ⟨fun z => ?_, fun z => ?_⟩
      · have pos : 0 < found.length := by
          cases found with
          | nil => simp at z
          | cons => simp
        refine pick hd2 (by omega) (by rw [List.length_map]; exact pos) (by rw [List.length_map]; omega) fun t D3 ht hd3 => ?_
        obtain ⟨p, hp, rfl⟩ := List.mem_map.mp ht
        have hpw := tr.w p hp
        simp only [wB_cons, wB_nil, wS_asg, wS_par, wS_setix, wS_aug, wS_expr, wS_ret, wS_ite, wS_frz, wE_nm, wE_con, wE_bin, wE_neg, wE_cmp, wE_and, wE_or, wE_not, wE_ite, wE_tup, wE_lst, wE_ix, wE_sl, wE_rev, wE_call, wE_callio, wE_callk, wE_bi, wE_lrg, wE_pop, wE_popp, wE_app, wE_appp, wE_rem, wE_ixs, wE_dne, wEs_nil, wEs_cons, wO_none, wO_some, wI_ex, wI_enum, wI_range, wC_nil, wC_cons, wp_some, wp_map, getV_zero, getV_succ, opT, biT, cmpT, wp_add_int, wp_add_lst, wp_add_tup, wp_add_str, wp_sub_int, wp_mul_int, wp_mul_lst, wp_mul_str, wp_fdiv, wp_mod, wp_pow, wp_len_lst, wp_len_tup, wp_list_lst, wp_list_tup, wp_tuple_lst, wp_tuple_tup, wp_rev_lst, wp_rev_tup, wp_sl_lst, wp_sl_tup, wp_neg, wp_listOf, wp_intOf, wp_iter_lst, wp_iter_tup, wp_lt_int, wp_gt_int, wp_le_int, wp_ge_int, bind_nm, bind_tup, set_nil, set_cons, List.set_cons_zero, List.set_cons_succ, List.map_cons, List.map_nil, List.cons_append, List.nil_append, List.replicate, ne_eq, not_true_eq_false, not_false_eq_true, true_implies, false_implies, true_and, and_true, reduceCtorEq, truth, decide_eq_true_eq, endOf, ix1_0, ix2_0, ix2_1, ix3_0, ix3_1, ix3_2, mut_int, List.length_cons, List.length_nil, Nat.reduceAdd, Nat.zero_add, List.getElem?_cons_zero, List.getElem?_cons_succ, ↓reduceIte, Option.getD_none, Option.getD_some, Bool.not_false, Bool.not_true, Bool.false_eq_true, true_or, or_true, implies_true, forall_const, Option.map_some, list_tS]
        refine some_of (m := 56) hd3 (by omega) rfl (by omega) (by decide) fun hang D4 hs hle hd4 => ?_
        simp only [wB_cons, wB_nil, wS_asg, wS_par, wS_setix, wS_aug, wS_expr, wS_ret, wS_ite, wS_frz, wE_nm, wE_con, wE_bin, wE_neg, wE_cmp, wE_and, wE_or, wE_not, wE_ite, wE_tup, wE_lst, wE_ix, wE_sl, wE_rev, wE_call, wE_callio, wE_callk, wE_bi, wE_lrg, wE_pop, wE_popp, wE_app, wE_appp, wE_rem, wE_ixs, wE_dne, wEs_nil, wEs_cons, wO_none, wO_some, wI_ex, wI_enum, wI_range, wC_nil, wC_cons, wp_some, wp_map, getV_zero, getV_succ, opT, biT, cmpT, wp_add_int, wp_add_lst, wp_add_tup, wp_add_str, wp_sub_int, wp_mul_int, wp_mul_lst, wp_mul_str, wp_fdiv, wp_mod, wp_pow, wp_len_lst, wp_len_tup, wp_list_lst, wp_list_tup, wp_tuple_lst, wp_tuple_tup, wp_rev_lst, wp_rev_tup, wp_sl_lst, wp_sl_tup, wp_neg, wp_listOf, wp_intOf, wp_iter_lst, wp_iter_tup, wp_lt_int, wp_gt_int, wp_le_int, wp_ge_int, bind_nm, bind_tup, set_nil, set_cons, List.set_cons_zero, List.set_cons_succ, List.map_cons, List.map_nil, List.cons_append, List.nil_append, List.replicate, ne_eq, not_true_eq_false, not_false_eq_true, true_implies, false_implies, true_and, and_true, reduceCtorEq, truth, decide_eq_true_eq, endOf, ix1_0, ix2_0, ix2_1, ix3_0, ix3_1, ix3_2, mut_int, List.length_cons, List.length_nil, Nat.reduceAdd, Nat.zero_add, List.getElem?_cons_zero, List.getElem?_cons_succ, ↓reduceIte, Option.getD_none, Option.getD_some, Bool.not_false, Bool.not_true, Bool.false_eq_true, true_or, or_true, implies_true, forall_const, Option.map_some, List.length_map]
        exact key hang D4 (hd4.imp (by omega)) (.inr ⟨p, hp, hs, hle⟩)
      · have e : found = [] := by simpa using z
        have := key [] D2 (hd2.imp (by omega)) (.inl ⟨rfl, e⟩)
        rw [List.length_map, List.length_map]
        exact this
    · rintro e ⟨D2, x6, x7, found, rfl, hd2, fl, R, eR, tr⟩
      have e2 : R = [] := by
        have := congrArg List.length eR
        rw [List.length_append] at this
        exact List.length_eq_zero_iff.mp (by omega)
      subst e2
      simp only [wB_cons, wB_nil, wS_asg, wS_par, wS_setix, wS_aug, wS_expr, wS_ret, wS_ite, wS_frz, wE_nm, wE_con, wE_bin, wE_neg, wE_cmp, wE_and, wE_or, wE_not, wE_ite, wE_tup, wE_lst, wE_ix, wE_sl, wE_rev, wE_call, wE_callio, wE_callk, wE_bi, wE_lrg, wE_pop, wE_popp, wE_app, wE_appp, wE_rem, wE_ixs, wE_dne, wEs_nil, wEs_cons, wO_none, wO_some, wI_ex, wI_enum, wI_range, wC_nil, wC_cons, wp_some, wp_map, getV_zero, getV_succ, opT, biT, cmpT, wp_add_int, wp_add_lst, wp_add_tup, wp_add_str, wp_sub_int, wp_mul_int, wp_mul_lst, wp_mul_str, wp_fdiv, wp_mod, wp_pow, wp_len_lst, wp_len_tup, wp_list_lst, wp_list_tup, wp_tuple_lst, wp_tuple_tup, wp_rev_lst, wp_rev_tup, wp_sl_lst, wp_sl_tup, wp_neg, wp_listOf, wp_intOf, wp_iter_lst, wp_iter_tup, wp_lt_int, wp_gt_int, wp_le_int, wp_ge_int, bind_nm, bind_tup, set_nil, set_cons, List.set_cons_zero, List.set_cons_succ, List.map_cons, List.map_nil, List.cons_append, List.nil_append, List.replicate, ne_eq, not_true_eq_false, not_false_eq_true, true_implies, false_implies, true_and, and_true, reduceCtorEq, truth, decide_eq_true_eq, endOf, ix1_0, ix2_0, ix2_1, ix3_0, ix3_1, ix3_2, mut_int, List.length_cons, List.length_nil, Nat.reduceAdd, Nat.zero_add, List.getElem?_cons_zero, List.getElem?_cons_succ, ↓reduceIte, Option.getD_none, Option.getD_some, Bool.not_false, Bool.not_true, Bool.false_eq_true, true_or, or_true, implies_true, forall_const, Option.map_some]
      have fn := tr.n
      simp only [List.length_nil, Nat.add_zero] at fn
      refine h found D2 tr.red fn (fun g hg => ⟨Nat.le_trans (tr.w g hg) (by omega), fun s hs => tr.sub g hg s hs⟩) (hd2.imp ?_)
      omega
theorem erase_perm {α : Type} : ∀ {l : List α} {k : Nat} (h : k < l.length), (l[k] :: l.eraseIdx k).Perm l
  | x :: l, 0, _ => .refl _
  | x :: l, k + 1, h => (List.Perm.swap ..).trans ((erase_perm (l := l) (k := k) (Nat.lt_of_succ_lt_succ h)).cons x)
/-- sets that are eaten up, as the law draws them -/
theorem eaten {n c : Nat} {D : T} {ex : Nat} {P : T → Option T → Prop} (hD : Deck c D) (hc : c ≤ 700000) (hx : ex < 4)
    (h : ∀ (S : List (List Tx)) (D' : T), Red S → 0 < S.length → S.length ≤ 8 → (∀ g ∈ S, g.length ≤ 60 ∧ ∀ s ∈ g, s.length ≤ 8) → Deck (c + 3000) D' → P (tSets S) (some D')) : wK (callN tbl (n + 4)) 8 [D, .int (ex : Int)] P := by
  refine wK_fn (d := f8) rfl rfl ?_
  unfold f8
  simp only [wB_cons, wB_nil, wS_asg, wS_par, wS_setix, wS_aug, wS_expr, wS_ret, wS_ite, wS_frz, wE_nm, wE_con, wE_bin, wE_neg, wE_cmp, wE_and, wE_or, wE_not, wE_ite, wE_tup, wE_lst, wE_ix, wE_sl, wE_rev, wE_call, wE_callio, wE_callk, wE_bi, wE_lrg, wE_pop, wE_popp, wE_app, wE_appp, wE_rem, wE_ixs, wE_dne, wEs_nil, wEs_cons, wO_none, wO_some, wI_ex, wI_enum, wI_range, wC_nil, wC_cons, wp_some, wp_map, getV_zero, getV_succ, opT, biT, cmpT, wp_add_int, wp_add_lst, wp_add_tup, wp_add_str, wp_sub_int, wp_mul_int, wp_mul_lst, wp_mul_str, wp_fdiv, wp_mod, wp_pow, wp_len_lst, wp_len_tup, wp_list_lst, wp_list_tup, wp_tuple_lst, wp_tuple_tup, wp_rev_lst, wp_rev_tup, wp_sl_lst, wp_sl_tup, wp_neg, wp_listOf, wp_intOf, wp_iter_lst, wp_iter_tup, wp_lt_int, wp_gt_int, wp_le_int, wp_ge_int, bind_nm, bind_tup, set_nil, set_cons, List.set_cons_zero, List.set_cons_succ, List.map_cons, List.map_nil, List.cons_append, List.nil_append, List.replicate, ne_eq, not_true_eq_false, not_false_eq_true, true_implies, false_implies, true_and, and_true, reduceCtorEq, truth, decide_eq_true_eq, endOf, ix1_0, ix2_0, ix2_1, ix3_0, ix3_1, ix3_2, mut_int, List.length_cons, List.length_nil, Nat.reduceAdd, Nat.zero_add, List.getElem?_cons_zero, List.getElem?_cons_succ, ↓reduceIte, Option.getD_none, Option.getD_some, Bool.not_false, Bool.not_true, Bool.false_eq_true, true_or, or_true, implies_true, forall_const, Option.map_some]
  refine draw hD (by omega) (by omega) (by omega) fun lots D1 hr hd => ?_
  simp only [wB_cons, wB_nil, wS_asg, wS_par, wS_setix, wS_aug, wS_expr, wS_ret, wS_ite, wS_frz, wE_nm, wE_con, wE_bin, wE_neg, wE_cmp, wE_and, wE_or, wE_not, wE_ite, wE_tup, wE_lst, wE_ix, wE_sl, wE_rev, wE_call, wE_callio, wE_callk, wE_bi, wE_lrg, wE_pop, wE_popp, wE_app, wE_appp, wE_rem, wE_ixs, wE_dne, wEs_nil, wEs_cons, wO_none, wO_some, wI_ex, wI_enum, wI_range, wC_nil, wC_cons, wp_some, wp_map, getV_zero, getV_succ, opT, biT, cmpT, wp_add_int, wp_add_lst, wp_add_tup, wp_add_str, wp_sub_int, wp_mul_int, wp_mul_lst, wp_mul_str, wp_fdiv, wp_mod, wp_pow, wp_len_lst, wp_len_tup, wp_list_lst, wp_list_tup, wp_tuple_lst, wp_tuple_tup, wp_rev_lst, wp_rev_tup, wp_sl_lst, wp_sl_tup, wp_neg, wp_listOf, wp_intOf, wp_iter_lst, wp_iter_tup, wp_lt_int, wp_gt_int, wp_le_int, wp_ge_int, bind_nm, bind_tup, set_nil, set_cons, List.set_cons_zero, List.set_cons_succ, List.map_cons, List.map_nil, List.cons_append, List.nil_append, List.replicate, ne_eq, not_true_eq_false, not_false_eq_true, true_implies, false_implies, true_and, and_true, reduceCtorEq, truth, decide_eq_true_eq, endOf, ix1_0, ix2_0, ix2_1, ix3_0, ix3_1, ix3_2, mut_int, List.length_cons, List.length_nil, Nat.reduceAdd, Nat.zero_add, List.getElem?_cons_zero, List.getElem?_cons_succ, ↓reduceIte, Option.getD_none, Option.getD_some, Bool.not_false, Bool.not_true, Bool.false_eq_true, true_or, or_true, implies_true, forall_const, Option.map_some]
  refine draw hd (by omega) (by omega) (by omega) fun k D2 hk hd2 => ?_
  simp only [wB_cons, wB_nil, wS_asg, wS_par, wS_setix, wS_aug, wS_expr, wS_ret, wS_ite, wS_frz, wE_nm, wE_con, wE_bin, wE_neg, wE_cmp, wE_and, wE_or, wE_not, wE_ite, wE_tup, wE_lst, wE_ix, wE_sl, wE_rev, wE_call, wE_callio, wE_callk, wE_bi, wE_lrg, wE_pop, wE_popp, wE_app, wE_appp, wE_rem, wE_ixs, wE_dne, wEs_nil, wEs_cons, wO_none, wO_some, wI_ex, wI_enum, wI_range, wC_nil, wC_cons, wp_some, wp_map, getV_zero, getV_succ, opT, biT, cmpT, wp_add_int, wp_add_lst, wp_add_tup, wp_add_str, wp_sub_int, wp_mul_int, wp_mul_lst, wp_mul_str, wp_fdiv, wp_mod, wp_pow, wp_len_lst, wp_len_tup, wp_list_lst, wp_list_tup, wp_tuple_lst, wp_tuple_tup, wp_rev_lst, wp_rev_tup, wp_sl_lst, wp_sl_tup, wp_neg, wp_listOf, wp_intOf, wp_iter_lst, wp_iter_tup, wp_lt_int, wp_gt_int, wp_le_int, wp_ge_int, bind_nm, bind_tup, set_nil, set_cons, List.set_cons_zero, List.set_cons_succ, List.map_cons, List.map_nil, List.cons_append, List.nil_append, List.replicate, ne_eq, not_true_eq_false, not_false_eq_true, true_implies, false_implies, true_and, and_true, reduceCtorEq, truth, decide_eq_true_eq, endOf, ix1_0, ix2_0, ix2_1, ix3_0, ix3_1, ix3_2, mut_int, List.length_cons, List.length_nil, Nat.reduceAdd, Nat.zero_add, List.getElem?_cons_zero, List.getElem?_cons_succ, ↓reduceIte, Option.getD_none, Option.getD_some, Bool.not_false, Bool.not_true, Bool.false_eq_true, true_or, or_true, implies_true, forall_const, Option.map_some]
  refine called hd2 (by omega) (by omega) (by omega) fun cl D3 nd hl ht hd3 => ?_
  simp only [wB_cons, wB_nil, wS_asg, wS_par, wS_setix, wS_aug, wS_expr, wS_ret, wS_ite, wS_frz, wE_nm, wE_con, wE_bin, wE_neg, wE_cmp, wE_and, wE_or, wE_not, wE_ite, wE_tup, wE_lst, wE_ix, wE_sl, wE_rev, wE_call, wE_callio, wE_callk, wE_bi, wE_lrg, wE_pop, wE_popp, wE_app, wE_appp, wE_rem, wE_ixs, wE_dne, wEs_nil, wEs_cons, wO_none, wO_some, wI_ex, wI_enum, wI_range, wC_nil, wC_cons, wp_some, wp_map, getV_zero, getV_succ, opT, biT, cmpT, wp_add_int, wp_add_lst, wp_add_tup, wp_add_str, wp_sub_int, wp_mul_int, wp_mul_lst, wp_mul_str, wp_fdiv, wp_mod, wp_pow, wp_len_lst, wp_len_tup, wp_list_lst, wp_list_tup, wp_tuple_lst, wp_tuple_tup, wp_rev_lst, wp_rev_tup, wp_sl_lst, wp_sl_tup, wp_neg, wp_listOf, wp_intOf, wp_iter_lst, wp_iter_tup, wp_lt_int, wp_gt_int, wp_le_int, wp_ge_int, bind_nm, bind_tup, set_nil, set_cons, List.set_cons_zero, List.set_cons_succ, List.map_cons, List.map_nil, List.cons_append, List.nil_append, List.replicate, ne_eq, not_true_eq_false, not_false_eq_true, true_implies, false_implies, true_and, and_true, reduceCtorEq, truth, decide_eq_true_eq, endOf, ix1_0, ix2_0, ix2_1, ix3_0, ix3_1, ix3_2, mut_int, List.length_cons, List.length_nil, Nat.reduceAdd, Nat.zero_add, List.getElem?_cons_zero, List.getElem?_cons_succ, ↓reduceIte, Option.getD_none, Option.getD_some, Bool.not_false, Bool.not_true, Bool.false_eq_true, true_or, or_true, implies_true, forall_const, Option.map_some]
  have el : 1 + (lots : Int) = ((1 + lots : Nat) : Int) := by omega
  rw [el]
  refine tree hd3 (by omega) nd hl (by omega) (by omega) fun F D4 red fl fw hd4 => ?_
  simp only [wB_cons, wB_nil, wS_asg, wS_par, wS_setix, wS_aug, wS_expr, wS_ret, wS_ite, wS_frz, wE_nm, wE_con, wE_bin, wE_neg, wE_cmp, wE_and, wE_or, wE_not, wE_ite, wE_tup, wE_lst, wE_ix, wE_sl, wE_rev, wE_call, wE_callio, wE_callk, wE_bi, wE_lrg, wE_pop, wE_popp, wE_app, wE_appp, wE_rem, wE_ixs, wE_dne, wEs_nil, wEs_cons, wO_none, wO_some, wI_ex, wI_enum, wI_range, wC_nil, wC_cons, wp_some, wp_map, getV_zero, getV_succ, opT, biT, cmpT, wp_add_int, wp_add_lst, wp_add_tup, wp_add_str, wp_sub_int, wp_mul_int, wp_mul_lst, wp_mul_str, wp_fdiv, wp_mod, wp_pow, wp_len_lst, wp_len_tup, wp_list_lst, wp_list_tup, wp_tuple_lst, wp_tuple_tup, wp_rev_lst, wp_rev_tup, wp_sl_lst, wp_sl_tup, wp_neg, wp_listOf, wp_intOf, wp_iter_lst, wp_iter_tup, wp_lt_int, wp_gt_int, wp_le_int, wp_ge_int, bind_nm, bind_tup, set_nil, set_cons, List.set_cons_zero, List.set_cons_succ, List.map_cons, List.map_nil, List.cons_append, List.nil_append, List.replicate, ne_eq, not_true_eq_false, not_false_eq_true, true_implies, false_implies, true_and, and_true, reduceCtorEq, truth, decide_eq_true_eq, endOf, ix1_0, ix2_0, ix2_1, ix3_0, ix3_1, ix3_2, mut_int, List.length_cons, List.length_nil, Nat.reduceAdd, Nat.zero_add, List.getElem?_cons_zero, List.getElem?_cons_succ, ↓reduceIte, Option.getD_none, Option.getD_some, Bool.not_false, Bool.not_true, Bool.false_eq_true, true_or, or_true, implies_true, forall_const, Option.map_some]
  refine pick hd4 (by omega) (by rw [List.length_map]; omega) (by rw [List.length_map]; omega) fun t D5 hf hd5 => ?_
  obtain ⟨p, hp, rfl⟩ := List.mem_map.mp hf
  simp only [wB_cons, wB_nil, wS_asg, wS_par, wS_setix, wS_aug, wS_expr, wS_ret, wS_ite, wS_frz, wE_nm, wE_con, wE_bin, wE_neg, wE_cmp, wE_and, wE_or, wE_not, wE_ite, wE_tup, wE_lst, wE_ix, wE_sl, wE_rev, wE_call, wE_callio, wE_callk, wE_bi, wE_lrg, wE_pop, wE_popp, wE_app, wE_appp, wE_rem, wE_ixs, wE_dne, wEs_nil, wEs_cons, wO_none, wO_some, wI_ex, wI_enum, wI_range, wC_nil, wC_cons, wp_some, wp_map, getV_zero, getV_succ, opT, biT, cmpT, wp_add_int, wp_add_lst, wp_add_tup, wp_add_str, wp_sub_int, wp_mul_int, wp_mul_lst, wp_mul_str, wp_fdiv, wp_mod, wp_pow, wp_len_lst, wp_len_tup, wp_list_lst, wp_list_tup, wp_tuple_lst, wp_tuple_tup, wp_rev_lst, wp_rev_tup, wp_sl_lst, wp_sl_tup, wp_neg, wp_listOf, wp_intOf, wp_iter_lst, wp_iter_tup, wp_lt_int, wp_gt_int, wp_le_int, wp_ge_int, bind_nm, bind_tup, set_nil, set_cons, List.set_cons_zero, List.set_cons_succ, List.map_cons, List.map_nil, List.cons_append, List.nil_append, List.replicate, ne_eq, not_true_eq_false, not_false_eq_true, true_implies, false_implies, true_and, and_true, reduceCtorEq, truth, decide_eq_true_eq, endOf, ix1_0, ix2_0, ix2_1, ix3_0, ix3_1, ix3_2, mut_int, List.length_cons, List.length_nil, Nat.reduceAdd, Nat.zero_add, List.getElem?_cons_zero, List.getElem?_cons_succ, ↓reduceIte, Option.getD_none, Option.getD_some, Bool.not_false, Bool.not_true, Bool.false_eq_true, true_or, or_true, implies_true, forall_const, Option.map_some]
  refine some_of (m := 56) hd5 (by omega) rfl (fw p hp).1 (by decide) fun own D6 hs hle hd6 => ?_
  simp only [wB_cons, wB_nil, wS_asg, wS_par, wS_setix, wS_aug, wS_expr, wS_ret, wS_ite, wS_frz, wE_nm, wE_con, wE_bin, wE_neg, wE_cmp, wE_and, wE_or, wE_not, wE_ite, wE_tup, wE_lst, wE_ix, wE_sl, wE_rev, wE_call, wE_callio, wE_callk, wE_bi, wE_lrg, wE_pop, wE_popp, wE_app, wE_appp, wE_rem, wE_ixs, wE_dne, wEs_nil, wEs_cons, wO_none, wO_some, wI_ex, wI_enum, wI_range, wC_nil, wC_cons, wp_some, wp_map, getV_zero, getV_succ, opT, biT, cmpT, wp_add_int, wp_add_lst, wp_add_tup, wp_add_str, wp_sub_int, wp_mul_int, wp_mul_lst, wp_mul_str, wp_fdiv, wp_mod, wp_pow, wp_len_lst, wp_len_tup, wp_list_lst, wp_list_tup, wp_tuple_lst, wp_tuple_tup, wp_rev_lst, wp_rev_tup, wp_sl_lst, wp_sl_tup, wp_neg, wp_listOf, wp_intOf, wp_iter_lst, wp_iter_tup, wp_lt_int, wp_gt_int, wp_le_int, wp_ge_int, bind_nm, bind_tup, set_nil, set_cons, List.set_cons_zero, List.set_cons_succ, List.map_cons, List.map_nil, List.cons_append, List.nil_append, List.replicate, ne_eq, not_true_eq_false, not_false_eq_true, true_implies, false_implies, true_and, and_true, reduceCtorEq, truth, decide_eq_true_eq, endOf, ix1_0, ix2_0, ix2_1, ix3_0, ix3_1, ix3_2, mut_int, List.length_cons, List.length_nil, Nat.reduceAdd, Nat.zero_add, List.getElem?_cons_zero, List.getElem?_cons_succ, ↓reduceIte, Option.getD_none, Option.getD_some, Bool.not_false, Bool.not_true, Bool.false_eq_true, true_or, or_true, implies_true, forall_const, Option.map_some]
  have E : ∃ S : List (List Tx), F.map tS ++ cut [tS p, T.tup (own.map T.str), T.tup (cl.map T.str)] (some (ex : Int)) (some ((ex : Int) + 1)) = S.map tS ∧ Red S ∧ 0 < S.length ∧ S.length ≤ 8 ∧ (∀ g ∈ S, g.length ≤ 60 ∧ ∀ s ∈ g, s.length ≤ 8) ∧ (cut [tS p, T.tup (own.map T.str), T.tup (cl.map T.str)] (some (ex : Int)) (some ((ex : Int) + 1))).length ≤ 1 := by
    have FW : ∀ g ∈ F, g.length ≤ 60 ∧ ∀ s ∈ g, s.length ≤ 8 := fun g hg => ⟨Nat.le_trans (fw g hg).1 (by decide), fun s hs => ht s ((fw g hg).2 s hs)⟩
    have one : ∀ q : List Tx, Red (F ++ [q]) → (q.length ≤ 60 ∧ ∀ s ∈ q, s.length ≤ 8) → ∃ S : List (List Tx), F.map tS ++ [tS q] = S.map tS ∧ Red S ∧ 0 < S.length ∧ S.length ≤ 8 ∧ (∀ g ∈ S, g.length ≤ 60 ∧ ∀ s ∈ g, s.length ≤ 8) ∧ [tS q].length ≤ 1 := fun q rq hq =>
      ⟨F ++ [q], by rw [List.map_append]; rfl, rq, by rw [List.length_append]; simp only [List.length_cons, List.length_nil]; omega, by rw [List.length_append]; simp only [List.length_cons, List.length_nil]; omega, fun g hg => by
        rcases List.mem_append.mp hg with h | h
        · exact FW g h
        · rw [List.mem_singleton.mp h]; exact hq, Nat.le_refl _⟩
    match ex, hx with
    | 0, _ => exact one p (red.more ⟨p, hp, fun s hs _ => hs⟩) (FW p hp)
    | 1, _ => exact one own (red.more ⟨p, hp, fun s hs' _ => hs s hs'⟩) ⟨Nat.le_trans hle (FW p hp).1, fun s hs' => (FW p hp).2 s (hs s hs')⟩
    | 2, _ => exact one cl ((Red.top fun x hx s hs => (fw x hx).2 s hs).perm (List.perm_append_comm (l₁ := [cl]))) ⟨Nat.le_trans hl (by decide), ht⟩
    | 3, _ => exact ⟨F, List.append_nil _, red, by omega, by omega, FW, Nat.zero_le _⟩
  obtain ⟨S, es, rS, s0, s8, sw, cl1⟩ := E
  rw [es]
  refine ⟨okLen_of (by rw [List.length_map]; omega), ?_⟩
  refine wE_lc ?_
  simp only [wB_cons, wB_nil, wS_asg, wS_par, wS_setix, wS_aug, wS_expr, wS_ret, wS_ite, wS_frz, wE_nm, wE_con, wE_bin, wE_neg, wE_cmp, wE_and, wE_or, wE_not, wE_ite, wE_tup, wE_lst, wE_ix, wE_sl, wE_rev, wE_call, wE_callio, wE_callk, wE_bi, wE_lrg, wE_pop, wE_popp, wE_app, wE_appp, wE_rem, wE_ixs, wE_dne, wEs_nil, wEs_cons, wO_none, wO_some, wI_ex, wI_enum, wI_range, wC_nil, wC_cons, wp_some, wp_map, getV_zero, getV_succ, opT, biT, cmpT, wp_add_int, wp_add_lst, wp_add_tup, wp_add_str, wp_sub_int, wp_mul_int, wp_mul_lst, wp_mul_str, wp_fdiv, wp_mod, wp_pow, wp_len_lst, wp_len_tup, wp_list_lst, wp_list_tup, wp_tuple_lst, wp_tuple_tup, wp_rev_lst, wp_rev_tup, wp_sl_lst, wp_sl_tup, wp_neg, wp_listOf, wp_intOf, wp_iter_lst, wp_iter_tup, wp_lt_int, wp_gt_int, wp_le_int, wp_ge_int, bind_nm, bind_tup, set_nil, set_cons, List.set_cons_zero, List.set_cons_succ, List.map_cons, List.map_nil, List.cons_append, List.nil_append, List.replicate, ne_eq, not_true_eq_false, not_false_eq_true, true_implies, false_implies, true_and, and_true, reduceCtorEq, truth, decide_eq_true_eq, endOf, ix1_0, ix2_0, ix2_1, ix3_0, ix3_1, ix3_2, mut_int, List.length_cons, List.length_nil, Nat.reduceAdd, Nat.zero_add, List.getElem?_cons_zero, List.getElem?_cons_succ, ↓reduceIte, Option.getD_none, Option.getD_some, Bool.not_false, Bool.not_true, Bool.false_eq_true, true_or, or_true, implies_true, forall_const, Option.map_some, List.length_map]
  refine ⟨?_, ?_⟩
  · rw [decide_eq_true (by omega), decide_eq_true (by omega)]; rfl
  refine ⟨fun l xs e => ∃ (D' : T) (left done : List (List Tx)) (x6 : Option T), e = [some D', some (.int (ex : Int)), some (.lst (left.map tS)), some (tS p), some (.int ((1 + lots : Nat) : Int)), some (.lst (cl.map .str)), x6] ∧ xs = done.map tS ∧ (done ++ left).Perm S ∧ l.length = left.length ∧ Deck (c + 2600 + done.length) D', ?_, ?_, ?_⟩
  · exact ⟨D6, S, [], none, rfl, rfl, .refl _, by rw [List.length_map, List.length_range, Int.toNat_natCast], hd6.imp (by omega)⟩
  · rintro t l xs e ⟨D', left, done, x6, rfl, rfl, pm, hl', hd'⟩
    have pl := pm.length_eq
    rw [List.length_append] at pl
    rw [List.length_cons] at hl'
    simp only [wB_cons, wB_nil, wS_asg, wS_par, wS_setix, wS_aug, wS_expr, wS_ret, wS_ite, wS_frz, wE_nm, wE_con, wE_bin, wE_neg, wE_cmp, wE_and, wE_or, wE_not, wE_ite, wE_tup, wE_lst, wE_ix, wE_sl, wE_rev, wE_call, wE_callio, wE_callk, wE_bi, wE_lrg, wE_pop, wE_popp, wE_app, wE_appp, wE_rem, wE_ixs, wE_dne, wEs_nil, wEs_cons, wO_none, wO_some, wI_ex, wI_enum, wI_range, wC_nil, wC_cons, wp_some, wp_map, getV_zero, getV_succ, opT, biT, cmpT, wp_add_int, wp_add_lst, wp_add_tup, wp_add_str, wp_sub_int, wp_mul_int, wp_mul_lst, wp_mul_str, wp_fdiv, wp_mod, wp_pow, wp_len_lst, wp_len_tup, wp_list_lst, wp_list_tup, wp_tuple_lst, wp_tuple_tup, wp_rev_lst, wp_rev_tup, wp_sl_lst, wp_sl_tup, wp_neg, wp_listOf, wp_intOf, wp_iter_lst, wp_iter_tup, wp_lt_int, wp_gt_int, wp_le_int, wp_ge_int, bind_nm, bind_tup, set_nil, set_cons, List.set_cons_zero, List.set_cons_succ, List.map_cons, List.map_nil, List.cons_append, List.nil_append, List.replicate, ne_eq, not_true_eq_false, not_false_eq_true, true_implies, false_implies, true_and, and_true, reduceCtorEq, truth, decide_eq_true_eq, endOf, ix1_0, ix2_0, ix2_1, ix3_0, ix3_1, ix3_2, mut_int, List.length_cons, List.length_nil, Nat.reduceAdd, Nat.zero_add, List.getElem?_cons_zero, List.getElem?_cons_succ, ↓reduceIte, Option.getD_none, Option.getD_some, Bool.not_false, Bool.not_true, Bool.false_eq_true, true_or, or_true, implies_true, forall_const, Option.map_some, Pat.slots, wipeE, List.length_map]
    refine draw hd' (by omega) (by omega) (by omega) fun r D7 hr7 hd7 => ?_
    have hr8 : r < left.length := by omega
    simp only [wB_cons, wB_nil, wS_asg, wS_par, wS_setix, wS_aug, wS_expr, wS_ret, wS_ite, wS_frz, wE_nm, wE_con, wE_bin, wE_neg, wE_cmp, wE_and, wE_or, wE_not, wE_ite, wE_tup, wE_lst, wE_ix, wE_sl, wE_rev, wE_call, wE_callio, wE_callk, wE_bi, wE_lrg, wE_pop, wE_popp, wE_app, wE_appp, wE_rem, wE_ixs, wE_dne, wEs_nil, wEs_cons, wO_none, wO_some, wI_ex, wI_enum, wI_range, wC_nil, wC_cons, wp_some, wp_map, getV_zero, getV_succ, opT, biT, cmpT, wp_add_int, wp_add_lst, wp_add_tup, wp_add_str, wp_sub_int, wp_mul_int, wp_mul_lst, wp_mul_str, wp_fdiv, wp_mod, wp_pow, wp_len_lst, wp_len_tup, wp_list_lst, wp_list_tup, wp_tuple_lst, wp_tuple_tup, wp_rev_lst, wp_rev_tup, wp_sl_lst, wp_sl_tup, wp_neg, wp_listOf, wp_intOf, wp_iter_lst, wp_iter_tup, wp_lt_int, wp_gt_int, wp_le_int, wp_ge_int, bind_nm, bind_tup, set_nil, set_cons, List.set_cons_zero, List.set_cons_succ, List.map_cons, List.map_nil, List.cons_append, List.nil_append, List.replicate, ne_eq, not_true_eq_false, not_false_eq_true, true_implies, false_implies, true_and, and_true, reduceCtorEq, truth, decide_eq_true_eq, endOf, ix1_0, ix2_0, ix2_1, ix3_0, ix3_1, ix3_2, mut_int, List.length_cons, List.length_nil, Nat.reduceAdd, Nat.zero_add, List.getElem?_cons_zero, List.getElem?_cons_succ, ↓reduceIte, Option.getD_none, Option.getD_some, Bool.not_false, Bool.not_true, Bool.false_eq_true, true_or, or_true, implies_true, forall_const, Option.map_some]
    refine ⟨_, popL_at (by rw [List.length_map]; exact hr8) (by rw [List.length_map]; omega), D7, left.eraseIdx r, done ++ [left[r]], some t, ?_, ?_, ?_, ?_, ?_⟩
    · rw [map_erase]
    · rw [List.map_append, List.getElem_map]; rfl
    · rw [List.append_assoc]
      exact ((erase_perm hr8).append_left done).trans pm
    · rw [List.length_eraseIdx_of_lt hr8]; omega
    · rw [List.length_append]; exact hd7
  · rintro xs e ⟨D', left, done, x6, rfl, rfl, pm, hl', hd'⟩
    have e2 : left = [] := List.length_eq_zero_iff.mp (by rw [← hl']; rfl)
    subst e2
    rw [List.append_nil] at pm
    have pl := pm.length_eq
    refine ⟨okLen_of (by rw [List.length_map]; omega), ?_⟩
    simp only [wB_cons, wB_nil, wS_asg, wS_par, wS_setix, wS_aug, wS_expr, wS_ret, wS_ite, wS_frz, wE_nm, wE_con, wE_bin, wE_neg, wE_cmp, wE_and, wE_or, wE_not, wE_ite, wE_tup, wE_lst, wE_ix, wE_sl, wE_rev, wE_call, wE_callio, wE_callk, wE_bi, wE_lrg, wE_pop, wE_popp, wE_app, wE_appp, wE_rem, wE_ixs, wE_dne, wEs_nil, wEs_cons, wO_none, wO_some, wI_ex, wI_enum, wI_range, wC_nil, wC_cons, wp_some, wp_map, getV_zero, getV_succ, opT, biT, cmpT, wp_add_int, wp_add_lst, wp_add_tup, wp_add_str, wp_sub_int, wp_mul_int, wp_mul_lst, wp_mul_str, wp_fdiv, wp_mod, wp_pow, wp_len_lst, wp_len_tup, wp_list_lst, wp_list_tup, wp_tuple_lst, wp_tuple_tup, wp_rev_lst, wp_rev_tup, wp_sl_lst, wp_sl_tup, wp_neg, wp_listOf, wp_intOf, wp_iter_lst, wp_iter_tup, wp_lt_int, wp_gt_int, wp_le_int, wp_ge_int, bind_nm, bind_tup, set_nil, set_cons, List.set_cons_zero, List.set_cons_succ, List.map_cons, List.map_nil, List.cons_append, List.nil_append, List.replicate, ne_eq, not_true_eq_false, not_false_eq_true, true_implies, false_implies, true_and, and_true, reduceCtorEq, truth, decide_eq_true_eq, endOf, ix1_0, ix2_0, ix2_1, ix3_0, ix3_1, ix3_2, mut_int, List.length_cons, List.length_nil, Nat.reduceAdd, Nat.zero_add, List.getElem?_cons_zero, List.getElem?_cons_succ, ↓reduceIte, Option.getD_none, Option.getD_some, Bool.not_false, Bool.not_true, Bool.false_eq_true, true_or, or_true, implies_true, forall_const, Option.map_some, restore, wipeE, Pat.slots, List.getElem?_nil, Option.join]
    exact h done D' (rS.perm pm.symm) (by omega) (by omega) (fun g hg => sw g (pm.mem_iff.mp hg)) (hd'.imp (by omega))
end K10
end

section
set_option Elab.async false
set_option linter.all false
set_option maxRecDepth 100000
set_option maxHeartbeats 4000000
/-! K10O: _law_drawn_order, the law. -/
namespace K10
open Pv Gyo
open L2 (ixN)
theorem pos_erase {k : Nat} : ∀ {l : List Nat}, k ∈ l → ∃ j, posI (k : Int) (l.map fun i : Nat => (i : Int)) = some j ∧ (l.map fun i : Nat => (i : Int)).eraseIdx j = (l.erase k).map fun i : Nat => (i : Int)
  | x :: l, h => by
    by_cases e : x = k
    · subst e
      exact ⟨0, by simp [posI], by simp⟩
    · have e' : ¬ ((x : Int) = (k : Int)) := by omega
      obtain ⟨j, h1, h2⟩ := pos_erase (l := l) (by rcases List.mem_cons.mp h with z | z; exact absurd z.symm e; exact z)
      refine ⟨j + 1, by simp [posI, e', h1], ?_⟩
      rw [List.erase_cons_tail (by simpa using e), List.map_cons, List.map_cons, List.eraseIdx_cons_succ, h2]
theorem ints_nats {l : List Nat} : intsOf (l.map (fun k : Nat => T.int (k : Int))) = some (l.map fun i : Nat => (i : Int)) := by
  have e : l.map (fun k : Nat => T.int (k : Int)) = (l.map fun i : Nat => (i : Int)).map .int := by rw [List.map_map]; rfl
  rw [e, intsOf_map]
theorem ix_single {x : T} {Q : T → Prop} : wp (ixT (.lst [x]) (.int 0)) Q ↔ Q x := wp_some
theorem pl_pairs {l : List (Nat × Nat)} : Ts.pl (l.map tPair) = true := pl_map fun _ _ => rfl
theorem rfl_env {a b c d c' d' x y z : T} (h1 : c = c') (h2 : d = d') : [some a, some b, some c, some d, some x, some y, some z] = [some a, some b, some c', some d', some x, some y, some z] := by rw [h1, h2]
theorem order {n c : Nat} {D : T} {S : List (List Tx)} {P : T → Option T → Prop} (hD : Deck c D) (hc : c ≤ 700000) (red : Red S) (h0 : 0 < S.length) (h9 : S.length ≤ 9) (hw : ∀ g ∈ S, g.length ≤ 100)
    (h : ∀ (ps : List (Nat × Nat)) (e : Nat) (D' : T), ps.length ≤ 8 → (∀ p ∈ ps, p.1 < S.length ∧ p.2 < S.length) → e < S.length → (∀ g ∈ S, ∀ s ∈ g, (cuts S ps).countP (fun g => decide (s ∈ g)) + 1 = S.countP fun g => decide (s ∈ g)) → Deck (c + 9) D' → P (tOrd ps e) (some D')) : wK (callN tbl (n + 3)) 10 [D, tSets S] P := by
  refine wK_fn (d := f10) rfl rfl ?_
  unfold f10
  simp only [wB_cons, wB_nil, wS_asg, wS_par, wS_setix, wS_aug, wS_expr, wS_ret, wS_ite, wS_frz, wE_nm, wE_con, wE_bin, wE_neg, wE_cmp, wE_and, wE_or, wE_not, wE_ite, wE_tup, wE_lst, wE_ix, wE_sl, wE_rev, wE_call, wE_callio, wE_callk, wE_bi, wE_lrg, wE_pop, wE_popp, wE_app, wE_appp, wE_rem, wE_ixs, wE_dne, wEs_nil, wEs_cons, wO_none, wO_some, wI_ex, wI_enum, wI_range, wC_nil, wC_cons, wp_some, wp_map, getV_zero, getV_succ, opT, biT, cmpT, wp_add_int, wp_add_lst, wp_add_tup, wp_add_str, wp_sub_int, wp_mul_int, wp_mul_lst, wp_mul_str, wp_fdiv, wp_mod, wp_pow, wp_len_lst, wp_len_tup, wp_list_lst, wp_list_tup, wp_tuple_lst, wp_tuple_tup, wp_rev_lst, wp_rev_tup, wp_sl_lst, wp_sl_tup, wp_neg, wp_listOf, wp_intOf, wp_iter_lst, wp_iter_tup, wp_lt_int, wp_gt_int, wp_le_int, wp_ge_int, bind_nm, bind_tup, set_nil, set_cons, List.set_cons_zero, List.set_cons_succ, List.map_cons, List.map_nil, List.cons_append, List.nil_append, List.replicate, ne_eq, not_true_eq_false, not_false_eq_true, true_implies, false_implies, true_and, and_true, reduceCtorEq, truth, decide_eq_true_eq, endOf, ix1_0, ix2_0, ix2_1, ix3_0, ix3_1, ix3_2, mut_int, List.length_cons, List.length_nil, Nat.reduceAdd, Nat.zero_add, List.getElem?_cons_zero, List.getElem?_cons_succ, ↓reduceIte, Option.getD_none, Option.getD_some, Bool.not_false, Bool.not_true, Bool.false_eq_true, true_or, or_true, implies_true, forall_const, Option.map_some, len_sets]
  refine ⟨?_, ?_⟩
  · rw [decide_eq_true (by omega), decide_eq_true (by omega)]; rfl
  have e0 : (List.range (S.length : Int).toNat).map (fun k : Nat => T.int (0 + (k : Int))) = (List.range S.length).map (fun k : Nat => T.int (k : Int)) := by
    rw [Int.toNat_natCast]
    exact List.map_congr_left fun k _ => by rw [Int.zero_add]
  rw [e0]
  refine wS_while (fun m e => ∃ (D' : T) (left : List Nat) (ps : List (Nat × Nat)) (x4 x5 x6 : Option T), e = [some D', some (tSets S), some (.lst (left.map (fun k : Nat => T.int (k : Int)))), some (.lst (ps.map tPair)), x4, x5, x6] ∧ m = left.length ∧ left.Nodup ∧ (∀ i ∈ left, i < S.length) ∧ 0 < left.length ∧ Red (left.map (at_ S)) ∧ (∀ p ∈ ps, p.1 < S.length ∧ p.2 < S.length) ∧ ps.length + left.length = S.length ∧ Deck (c + ps.length) D' ∧ ∀ s, nCut S s ps + max (nIn S s left) 1 = max (nIn S s (List.range S.length)) 1) (m := S.length) ?_ (Nat.lt_of_le_of_lt h9 (by decide)) ?_
  · refine ⟨D, List.range S.length, [], none, none, none, rfl, List.length_range.symm, List.nodup_range, fun i hi => List.mem_range.mp hi, by rw [List.length_range]; exact h0, ?_, (fun p hp => by cases hp), by rw [List.length_range]; exact Nat.zero_add _, hD, fun s => by unfold nCut; rw [List.countP_nil]; omega⟩
    rw [map_at]
    exact red
  rintro m e ⟨D', left, ps, x4, x5, x6, rfl, rfl, nd, hi, pos, rd, hp, hn, hd, hcnt⟩
  simp only [wB_cons, wB_nil, wS_asg, wS_par, wS_setix, wS_aug, wS_expr, wS_ret, wS_ite, wS_frz, wE_nm, wE_con, wE_bin, wE_neg, wE_cmp, wE_and, wE_or, wE_not, wE_ite, wE_tup, wE_lst, wE_ix, wE_sl, wE_rev, wE_call, wE_callio, wE_callk, wE_bi, wE_lrg, wE_pop, wE_popp, wE_app, wE_appp, wE_rem, wE_ixs, wE_dne, wEs_nil, wEs_cons, wO_none, wO_some, wI_ex, wI_enum, wI_range, wC_nil, wC_cons, wp_some, wp_map, getV_zero, getV_succ, opT, biT, cmpT, wp_add_int, wp_add_lst, wp_add_tup, wp_add_str, wp_sub_int, wp_mul_int, wp_mul_lst, wp_mul_str, wp_fdiv, wp_mod, wp_pow, wp_len_lst, wp_len_tup, wp_list_lst, wp_list_tup, wp_tuple_lst, wp_tuple_tup, wp_rev_lst, wp_rev_tup, wp_sl_lst, wp_sl_tup, wp_neg, wp_listOf, wp_intOf, wp_iter_lst, wp_iter_tup, wp_lt_int, wp_gt_int, wp_le_int, wp_ge_int, bind_nm, bind_tup, set_nil, set_cons, List.set_cons_zero, List.set_cons_succ, List.map_cons, List.map_nil, List.cons_append, List.nil_append, List.replicate, ne_eq, not_true_eq_false, not_false_eq_true, true_implies, false_implies, true_and, and_true, reduceCtorEq, truth, decide_eq_true_eq, endOf, ix1_0, ix2_0, ix2_1, ix3_0, ix3_1, ix3_2, mut_int, List.length_cons, List.length_nil, Nat.reduceAdd, Nat.zero_add, List.getElem?_cons_zero, List.getElem?_cons_succ, ↓reduceIte, Option.getD_none, Option.getD_some, Bool.not_false, Bool.not_true, Bool.false_eq_true, true_or, or_true, implies_true, forall_const, Option.map_some, List.length_map]
  refine ⟨fun z => ?_, fun z => ?_⟩
  · have two : 1 < left.length := by omega
    refine may_go (by omega) hi hw ?_
    obtain ⟨j0, k0, m0⟩ := may_some nd rd two
    have ne : (mg S left).isEmpty = false := by
      cases e : mg S left with
      | nil => have := mem_mg.mpr m0; rw [e] at this; cases this
      | cons => rfl
    simp only [wB_cons, wB_nil, wS_asg, wS_par, wS_setix, wS_aug, wS_expr, wS_ret, wS_ite, wS_frz, wE_nm, wE_con, wE_bin, wE_neg, wE_cmp, wE_and, wE_or, wE_not, wE_ite, wE_tup, wE_lst, wE_ix, wE_sl, wE_rev, wE_call, wE_callio, wE_callk, wE_bi, wE_lrg, wE_pop, wE_popp, wE_app, wE_appp, wE_rem, wE_ixs, wE_dne, wEs_nil, wEs_cons, wO_none, wO_some, wI_ex, wI_enum, wI_range, wC_nil, wC_cons, wp_some, wp_map, getV_zero, getV_succ, opT, biT, cmpT, wp_add_int, wp_add_lst, wp_add_tup, wp_add_str, wp_sub_int, wp_mul_int, wp_mul_lst, wp_mul_str, wp_fdiv, wp_mod, wp_pow, wp_len_lst, wp_len_tup, wp_list_lst, wp_list_tup, wp_tuple_lst, wp_tuple_tup, wp_rev_lst, wp_rev_tup, wp_sl_lst, wp_sl_tup, wp_neg, wp_listOf, wp_intOf, wp_iter_lst, wp_iter_tup, wp_lt_int, wp_gt_int, wp_le_int, wp_ge_int, bind_nm, bind_tup, set_nil, set_cons, List.set_cons_zero, List.set_cons_succ, List.map_cons, List.map_nil, List.cons_append, List.nil_append, List.replicate, ne_eq, not_true_eq_false, not_false_eq_true, true_implies, false_implies, true_and, and_true, reduceCtorEq, truth, decide_eq_true_eq, endOf, ix1_0, ix2_0, ix2_1, ix3_0, ix3_1, ix3_2, mut_int, List.length_cons, List.length_nil, Nat.reduceAdd, Nat.zero_add, List.getElem?_cons_zero, List.getElem?_cons_succ, ↓reduceIte, Option.getD_none, Option.getD_some, Bool.not_false, Bool.not_true, Bool.false_eq_true, true_or, or_true, implies_true, forall_const, Option.map_some, wp_eq_nil, pl_pairs, List.isEmpty_map, ne]
    refine pick hd (by omega) (by rw [List.length_map]; exact List.length_pos_of_mem (mem_mg.mpr m0)) (by rw [List.length_map]; exact Nat.le_trans (mgd_len (by omega) left) (by omega)) fun t D2 ht hd2 => ?_
    obtain ⟨⟨j, k⟩, hm, rfl⟩ := List.mem_map.mp ht
    have M := mem_mg.mp hm
    obtain ⟨q, q1, q2⟩ := pos_erase M.1
    have ll : (left.erase j).length = left.length - 1 := List.length_erase_of_mem M.1
    unfold tPair
    simp only [wB_cons, wB_nil, wS_asg, wS_par, wS_setix, wS_aug, wS_expr, wS_ret, wS_ite, wS_frz, wE_nm, wE_con, wE_bin, wE_neg, wE_cmp, wE_and, wE_or, wE_not, wE_ite, wE_tup, wE_lst, wE_ix, wE_sl, wE_rev, wE_call, wE_callio, wE_callk, wE_bi, wE_lrg, wE_pop, wE_popp, wE_app, wE_appp, wE_rem, wE_ixs, wE_dne, wEs_nil, wEs_cons, wO_none, wO_some, wI_ex, wI_enum, wI_range, wC_nil, wC_cons, wp_some, wp_map, getV_zero, getV_succ, opT, biT, cmpT, wp_add_int, wp_add_lst, wp_add_tup, wp_add_str, wp_sub_int, wp_mul_int, wp_mul_lst, wp_mul_str, wp_fdiv, wp_mod, wp_pow, wp_len_lst, wp_len_tup, wp_list_lst, wp_list_tup, wp_tuple_lst, wp_tuple_tup, wp_rev_lst, wp_rev_tup, wp_sl_lst, wp_sl_tup, wp_neg, wp_listOf, wp_intOf, wp_iter_lst, wp_iter_tup, wp_lt_int, wp_gt_int, wp_le_int, wp_ge_int, bind_nm, bind_tup, set_nil, set_cons, List.set_cons_zero, List.set_cons_succ, List.map_cons, List.map_nil, List.cons_append, List.nil_append, List.replicate, ne_eq, not_true_eq_false, not_false_eq_true, true_implies, false_implies, true_and, and_true, reduceCtorEq, truth, decide_eq_true_eq, endOf, ix1_0, ix2_0, ix2_1, ix3_0, ix3_1, ix3_2, mut_int, List.length_cons, List.length_nil, Nat.reduceAdd, Nat.zero_add, List.getElem?_cons_zero, List.getElem?_cons_succ, ↓reduceIte, Option.getD_none, Option.getD_some, Bool.not_false, Bool.not_true, Bool.false_eq_true, true_or, or_true, implies_true, forall_const, Option.map_some, ints_nats, q1, q2]
    refine ⟨okLen_of (by rw [List.length_map]; omega), (left.erase j).length, by omega, D2, left.erase j, ps ++ [(j, k)], _, _, _, rfl_env (congrArg T.lst ?_) (congrArg T.lst ?_), rfl, nd.erase j, fun i h => hi i (List.mem_of_mem_erase h), by omega, may_red nd rd M, fun p hm => ?_, ?_, ?_, fun s => ?_⟩
    · rw [List.map_map]; rfl
    · rw [List.map_append]; rfl
    · rcases List.mem_append.mp hm with h | h
      · exact hp p h
      · rw [List.mem_singleton.mp h]; exact ⟨hi j M.1, hi k M.2.1⟩
    · rw [List.length_append]; simp only [List.length_cons, List.length_nil]; omega
    · rw [List.length_append]; exact hd2
    · rw [cut_step nd M]; exact hcnt s
  · have l1 : left.length = 1 := by omega
    obtain ⟨e, rfl⟩ := List.length_eq_one_iff.mp l1
    simp only [wB_cons, wB_nil, wS_asg, wS_par, wS_setix, wS_aug, wS_expr, wS_ret, wS_ite, wS_frz, wE_nm, wE_con, wE_bin, wE_neg, wE_cmp, wE_and, wE_or, wE_not, wE_ite, wE_tup, wE_lst, wE_ix, wE_sl, wE_rev, wE_call, wE_callio, wE_callk, wE_bi, wE_lrg, wE_pop, wE_popp, wE_app, wE_appp, wE_rem, wE_ixs, wE_dne, wEs_nil, wEs_cons, wO_none, wO_some, wI_ex, wI_enum, wI_range, wC_nil, wC_cons, wp_some, wp_map, getV_zero, getV_succ, opT, biT, cmpT, wp_add_int, wp_add_lst, wp_add_tup, wp_add_str, wp_sub_int, wp_mul_int, wp_mul_lst, wp_mul_str, wp_fdiv, wp_mod, wp_pow, wp_len_lst, wp_len_tup, wp_list_lst, wp_list_tup, wp_tuple_lst, wp_tuple_tup, wp_rev_lst, wp_rev_tup, wp_sl_lst, wp_sl_tup, wp_neg, wp_listOf, wp_intOf, wp_iter_lst, wp_iter_tup, wp_lt_int, wp_gt_int, wp_le_int, wp_ge_int, bind_nm, bind_tup, set_nil, set_cons, List.set_cons_zero, List.set_cons_succ, List.map_cons, List.map_nil, List.cons_append, List.nil_append, List.replicate, ne_eq, not_true_eq_false, not_false_eq_true, true_implies, false_implies, true_and, and_true, reduceCtorEq, truth, decide_eq_true_eq, endOf, ix1_0, ix2_0, ix2_1, ix3_0, ix3_1, ix3_2, mut_int, List.length_cons, List.length_nil, Nat.reduceAdd, Nat.zero_add, List.getElem?_cons_zero, List.getElem?_cons_succ, ↓reduceIte, Option.getD_none, Option.getD_some, Bool.not_false, Bool.not_true, Bool.false_eq_true, true_or, or_true, implies_true, forall_const, Option.map_some, ix_single]
    refine ⟨okLen_of (by omega), ?_⟩
    refine h ps e D' (by omega) hp (hi e (.head _)) (fun g hg s hs => ?_) (hd.imp (by omega))
    have h1 := hcnt s
    rw [nIn_all] at h1
    have h2 : 0 < S.countP fun c => decide (s ∈ c) := List.countP_pos_iff.mpr ⟨g, hg, by simpa using hs⟩
    have h3 : nIn S s [e] ≤ 1 := List.countP_le_length
    have h4 : (cuts S ps).countP (fun g => decide (s ∈ g)) = nCut S s ps := by
      unfold cuts nCut
      rw [List.countP_map]
      refine List.countP_congr fun p _ => ?_
      simp [com]
    rw [h4]
    omega
theorem sum_ints {l : List Int} : sumT [.lst (l.map .int)] = some (.int l.sum) := by
  show (intsOf _).map _ = _
  rw [intsOf_map]
  rfl
/-- the deck laid -/
theorem deck {n : Nat} {ns : List Int} {P : T → Option T → Prop} (h : ∀ D, Deck 0 D → P D none) : wK (callN tbl (n + 1)) 2 [.lst (ns.map .int)] P := by
  refine wK_fn (d := f2) rfl rfl ?_
  unfold f2
  have ecut : cut (ns.map T.int) none (some 63) = (ns.take 63).map .int := cut_to (k := 63)
  simp only [wB_cons, wB_nil, wS_asg, wS_par, wS_setix, wS_aug, wS_expr, wS_ret, wS_ite, wS_frz, wE_nm, wE_con, wE_bin, wE_neg, wE_cmp, wE_and, wE_or, wE_not, wE_ite, wE_tup, wE_lst, wE_ix, wE_sl, wE_rev, wE_call, wE_callio, wE_callk, wE_bi, wE_lrg, wE_pop, wE_popp, wE_app, wE_appp, wE_rem, wE_ixs, wE_dne, wEs_nil, wEs_cons, wO_none, wO_some, wI_ex, wI_enum, wI_range, wC_nil, wC_cons, wp_some, wp_map, getV_zero, getV_succ, opT, biT, cmpT, wp_add_int, wp_add_lst, wp_add_tup, wp_add_str, wp_sub_int, wp_mul_int, wp_mul_lst, wp_mul_str, wp_fdiv, wp_mod, wp_pow, wp_len_lst, wp_len_tup, wp_list_lst, wp_list_tup, wp_tuple_lst, wp_tuple_tup, wp_rev_lst, wp_rev_tup, wp_sl_lst, wp_sl_tup, wp_neg, wp_listOf, wp_intOf, wp_iter_lst, wp_iter_tup, wp_lt_int, wp_gt_int, wp_le_int, wp_ge_int, bind_nm, bind_tup, set_nil, set_cons, List.set_cons_zero, List.set_cons_succ, List.map_cons, List.map_nil, List.cons_append, List.nil_append, List.replicate, ne_eq, not_true_eq_false, not_false_eq_true, true_implies, false_implies, true_and, and_true, reduceCtorEq, truth, decide_eq_true_eq, endOf, ix1_0, ix2_0, ix2_1, ix3_0, ix3_1, ix3_2, mut_int, List.length_cons, List.length_nil, Nat.reduceAdd, Nat.zero_add, List.getElem?_cons_zero, List.getElem?_cons_succ, ↓reduceIte, Option.getD_none, Option.getD_some, Bool.not_false, Bool.not_true, Bool.false_eq_true, true_or, or_true, implies_true, forall_const, Option.map_some, ecut]
  have hl : (ns.take 63).length ≤ 63 := List.length_take_le _ _
  generalize ns.take 63 = cells at hl ⊢
  refine wE_map (cells.mapIdx fun k i => (k, i)) (fun p => .tup [.int (p.1 : Int), .int p.2]) (fun p => .int (p.2 % 2147483579 * (2 * (p.1 : Int) + 1))) ?_
  simp only [wB_cons, wB_nil, wS_asg, wS_par, wS_setix, wS_aug, wS_expr, wS_ret, wS_ite, wS_frz, wE_nm, wE_con, wE_bin, wE_neg, wE_cmp, wE_and, wE_or, wE_not, wE_ite, wE_tup, wE_lst, wE_ix, wE_sl, wE_rev, wE_call, wE_callio, wE_callk, wE_bi, wE_lrg, wE_pop, wE_popp, wE_app, wE_appp, wE_rem, wE_ixs, wE_dne, wEs_nil, wEs_cons, wO_none, wO_some, wI_ex, wI_enum, wI_range, wC_nil, wC_cons, wp_some, wp_map, getV_zero, getV_succ, opT, biT, cmpT, wp_add_int, wp_add_lst, wp_add_tup, wp_add_str, wp_sub_int, wp_mul_int, wp_mul_lst, wp_mul_str, wp_fdiv, wp_mod, wp_pow, wp_len_lst, wp_len_tup, wp_list_lst, wp_list_tup, wp_tuple_lst, wp_tuple_tup, wp_rev_lst, wp_rev_tup, wp_sl_lst, wp_sl_tup, wp_neg, wp_listOf, wp_intOf, wp_iter_lst, wp_iter_tup, wp_lt_int, wp_gt_int, wp_le_int, wp_ge_int, bind_nm, bind_tup, set_nil, set_cons, List.set_cons_zero, List.set_cons_succ, List.map_cons, List.map_nil, List.cons_append, List.nil_append, List.replicate, ne_eq, not_true_eq_false, not_false_eq_true, true_implies, false_implies, true_and, and_true, reduceCtorEq, truth, decide_eq_true_eq, endOf, ix1_0, ix2_0, ix2_1, ix3_0, ix3_1, ix3_2, mut_int, List.length_cons, List.length_nil, Nat.reduceAdd, Nat.zero_add, List.getElem?_cons_zero, List.getElem?_cons_succ, ↓reduceIte, Option.getD_none, Option.getD_some, Bool.not_false, Bool.not_true, Bool.false_eq_true, true_or, or_true, implies_true, forall_const, Option.map_some, Pat.slots, wipeE, List.length_mapIdx]
  refine ⟨?_, fun p hp => ?_, by omega, ?_⟩
  · exact List.ext_getElem (by simp) fun i _ _ => by simp
  · have h1 : p.1 < 63 := by
      obtain ⟨k, hk, e⟩ := List.mem_mapIdx.mp hp
      rw [← e]
      show k < 63
      omega
    have h2 := mod_rng (a := p.2) (m := 2147483579) (by decide)
    exact ⟨by decide, ⟨lt_big64 (by omega) (by omega), lt_big64 (by omega) (by omega)⟩, lt_big64 (by omega) (by omega), lt_big64 (by omega) (by omega)⟩
  have es : (cells.mapIdx fun k i => (k, i)).map (fun p => T.int (p.2 % 2147483579 * (2 * (p.1 : Int) + 1))) = ((cells.mapIdx fun k i => (k, i)).map (fun p => p.2 % 2147483579 * (2 * (p.1 : Int) + 1))).map .int := by rw [List.map_map]; rfl
  rw [es]
  rw [sum_ints]
  simp only [wB_cons, wB_nil, wS_asg, wS_par, wS_setix, wS_aug, wS_expr, wS_ret, wS_ite, wS_frz, wE_nm, wE_con, wE_bin, wE_neg, wE_cmp, wE_and, wE_or, wE_not, wE_ite, wE_tup, wE_lst, wE_ix, wE_sl, wE_rev, wE_call, wE_callio, wE_callk, wE_bi, wE_lrg, wE_pop, wE_popp, wE_app, wE_appp, wE_rem, wE_ixs, wE_dne, wEs_nil, wEs_cons, wO_none, wO_some, wI_ex, wI_enum, wI_range, wC_nil, wC_cons, wp_some, wp_map, getV_zero, getV_succ, opT, biT, cmpT, wp_add_int, wp_add_lst, wp_add_tup, wp_add_str, wp_sub_int, wp_mul_int, wp_mul_lst, wp_mul_str, wp_fdiv, wp_mod, wp_pow, wp_len_lst, wp_len_tup, wp_list_lst, wp_list_tup, wp_tuple_lst, wp_tuple_tup, wp_rev_lst, wp_rev_tup, wp_sl_lst, wp_sl_tup, wp_neg, wp_listOf, wp_intOf, wp_iter_lst, wp_iter_tup, wp_lt_int, wp_gt_int, wp_le_int, wp_ge_int, bind_nm, bind_tup, set_nil, set_cons, List.set_cons_zero, List.set_cons_succ, List.map_cons, List.map_nil, List.cons_append, List.nil_append, List.replicate, ne_eq, not_true_eq_false, not_false_eq_true, true_implies, false_implies, true_and, and_true, reduceCtorEq, truth, decide_eq_true_eq, endOf, ix1_0, ix2_0, ix2_1, ix3_0, ix3_1, ix3_2, mut_int, List.length_cons, List.length_nil, Nat.reduceAdd, Nat.zero_add, List.getElem?_cons_zero, List.getElem?_cons_succ, ↓reduceIte, Option.getD_none, Option.getD_some, Bool.not_false, Bool.not_true, Bool.false_eq_true, true_or, or_true, implies_true, forall_const, Option.map_some, List.length_map]
  refine ⟨⟨lt_big64 (by omega) (by omega), lt_big64 (by omega) (by omega)⟩, ?_⟩
  rw [← List.map_reverse]
  exact h _ ⟨cells.reverse, _, 0, rfl, by rw [List.length_reverse]; exact hl, Nat.le_refl _⟩
theorem iter_sets {S : List (List Tx)} {P : List T → Prop} : wp (iterT (tSets S)) P ↔ P (S.map tS) := wp_some
theorem law {ns : List Int} {P : T → Option T → Prop} (h : P (.bl true) none) : wK (callN tbl 5) 13 [.lst (ns.map .int)] P := by
  refine wK_fn (d := f13) rfl rfl ?_
  unfold f13
  simp only [wB_cons, wB_nil, wS_asg, wS_par, wS_setix, wS_aug, wS_expr, wS_ret, wS_ite, wS_frz, wE_nm, wE_con, wE_bin, wE_neg, wE_cmp, wE_and, wE_or, wE_not, wE_ite, wE_tup, wE_lst, wE_ix, wE_sl, wE_rev, wE_call, wE_callio, wE_callk, wE_bi, wE_lrg, wE_pop, wE_popp, wE_app, wE_appp, wE_rem, wE_ixs, wE_dne, wEs_nil, wEs_cons, wO_none, wO_some, wI_ex, wI_enum, wI_range, wC_nil, wC_cons, wp_some, wp_map, getV_zero, getV_succ, opT, biT, cmpT, wp_add_int, wp_add_lst, wp_add_tup, wp_add_str, wp_sub_int, wp_mul_int, wp_mul_lst, wp_mul_str, wp_fdiv, wp_mod, wp_pow, wp_len_lst, wp_len_tup, wp_list_lst, wp_list_tup, wp_tuple_lst, wp_tuple_tup, wp_rev_lst, wp_rev_tup, wp_sl_lst, wp_sl_tup, wp_neg, wp_listOf, wp_intOf, wp_iter_lst, wp_iter_tup, wp_lt_int, wp_gt_int, wp_le_int, wp_ge_int, bind_nm, bind_tup, set_nil, set_cons, List.set_cons_zero, List.set_cons_succ, List.map_cons, List.map_nil, List.cons_append, List.nil_append, List.replicate, ne_eq, not_true_eq_false, not_false_eq_true, true_implies, false_implies, true_and, and_true, reduceCtorEq, truth, decide_eq_true_eq, endOf, ix1_0, ix2_0, ix2_1, ix3_0, ix3_1, ix3_2, mut_int, List.length_cons, List.length_nil, Nat.reduceAdd, Nat.zero_add, List.getElem?_cons_zero, List.getElem?_cons_succ, ↓reduceIte, Option.getD_none, Option.getD_some, Bool.not_false, Bool.not_true, Bool.false_eq_true, true_or, or_true, implies_true, forall_const, Option.map_some]
  refine deck fun D hD => ?_
  refine wE_lc ?_
  simp only [wB_cons, wB_nil, wS_asg, wS_par, wS_setix, wS_aug, wS_expr, wS_ret, wS_ite, wS_frz, wE_nm, wE_con, wE_bin, wE_neg, wE_cmp, wE_and, wE_or, wE_not, wE_ite, wE_tup, wE_lst, wE_ix, wE_sl, wE_rev, wE_call, wE_callio, wE_callk, wE_bi, wE_lrg, wE_pop, wE_popp, wE_app, wE_appp, wE_rem, wE_ixs, wE_dne, wEs_nil, wEs_cons, wO_none, wO_some, wI_ex, wI_enum, wI_range, wC_nil, wC_cons, wp_some, wp_map, getV_zero, getV_succ, opT, biT, cmpT, wp_add_int, wp_add_lst, wp_add_tup, wp_add_str, wp_sub_int, wp_mul_int, wp_mul_lst, wp_mul_str, wp_fdiv, wp_mod, wp_pow, wp_len_lst, wp_len_tup, wp_list_lst, wp_list_tup, wp_tuple_lst, wp_tuple_tup, wp_rev_lst, wp_rev_tup, wp_sl_lst, wp_sl_tup, wp_neg, wp_listOf, wp_intOf, wp_iter_lst, wp_iter_tup, wp_lt_int, wp_gt_int, wp_le_int, wp_ge_int, bind_nm, bind_tup, set_nil, set_cons, List.set_cons_zero, List.set_cons_succ, List.map_cons, List.map_nil, List.cons_append, List.nil_append, List.replicate, ne_eq, not_true_eq_false, not_false_eq_true, true_implies, false_implies, true_and, and_true, reduceCtorEq, truth, decide_eq_true_eq, endOf, ix1_0, ix2_0, ix2_1, ix3_0, ix3_1, ix3_2, mut_int, List.length_cons, List.length_nil, Nat.reduceAdd, Nat.zero_add, List.getElem?_cons_zero, List.getElem?_cons_succ, ↓reduceIte, Option.getD_none, Option.getD_some, Bool.not_false, Bool.not_true, Bool.false_eq_true, true_or, or_true, implies_true, forall_const, Option.map_some]
  refine ⟨by decide, fun l xs e => ∃ (D' : T) (es : List Nat) (x8 : Option T), e = [some (.lst (ns.map .int)), some D', none, none, none, none, none, none, x8, none] ∧ xs = es.map (fun k : Nat => T.int (k : Int)) ∧ (∀ x ∈ es, x < 4) ∧ es.length + l.length = 4 ∧ Deck es.length D', ?_, ?_, ?_⟩
  · exact ⟨D, [], none, rfl, rfl, fun _ h => (by cases h), rfl, hD⟩
  · rintro t l xs e ⟨D', es, x8, rfl, rfl, h4, hl, hd⟩
    rw [List.length_cons] at hl
    simp only [wB_cons, wB_nil, wS_asg, wS_par, wS_setix, wS_aug, wS_expr, wS_ret, wS_ite, wS_frz, wE_nm, wE_con, wE_bin, wE_neg, wE_cmp, wE_and, wE_or, wE_not, wE_ite, wE_tup, wE_lst, wE_ix, wE_sl, wE_rev, wE_call, wE_callio, wE_callk, wE_bi, wE_lrg, wE_pop, wE_popp, wE_app, wE_appp, wE_rem, wE_ixs, wE_dne, wEs_nil, wEs_cons, wO_none, wO_some, wI_ex, wI_enum, wI_range, wC_nil, wC_cons, wp_some, wp_map, getV_zero, getV_succ, opT, biT, cmpT, wp_add_int, wp_add_lst, wp_add_tup, wp_add_str, wp_sub_int, wp_mul_int, wp_mul_lst, wp_mul_str, wp_fdiv, wp_mod, wp_pow, wp_len_lst, wp_len_tup, wp_list_lst, wp_list_tup, wp_tuple_lst, wp_tuple_tup, wp_rev_lst, wp_rev_tup, wp_sl_lst, wp_sl_tup, wp_neg, wp_listOf, wp_intOf, wp_iter_lst, wp_iter_tup, wp_lt_int, wp_gt_int, wp_le_int, wp_ge_int, bind_nm, bind_tup, set_nil, set_cons, List.set_cons_zero, List.set_cons_succ, List.map_cons, List.map_nil, List.cons_append, List.nil_append, List.replicate, ne_eq, not_true_eq_false, not_false_eq_true, true_implies, false_implies, true_and, and_true, reduceCtorEq, truth, decide_eq_true_eq, endOf, ix1_0, ix2_0, ix2_1, ix3_0, ix3_1, ix3_2, mut_int, List.length_cons, List.length_nil, Nat.reduceAdd, Nat.zero_add, List.getElem?_cons_zero, List.getElem?_cons_succ, ↓reduceIte, Option.getD_none, Option.getD_some, Bool.not_false, Bool.not_true, Bool.false_eq_true, true_or, or_true, implies_true, forall_const, Option.map_some, Pat.slots, wipeE]
    refine draw hd (by omega) (by omega) (by omega) fun r D2 hr hd2 => ?_
    simp only [wB_cons, wB_nil, wS_asg, wS_par, wS_setix, wS_aug, wS_expr, wS_ret, wS_ite, wS_frz, wE_nm, wE_con, wE_bin, wE_neg, wE_cmp, wE_and, wE_or, wE_not, wE_ite, wE_tup, wE_lst, wE_ix, wE_sl, wE_rev, wE_call, wE_callio, wE_callk, wE_bi, wE_lrg, wE_pop, wE_popp, wE_app, wE_appp, wE_rem, wE_ixs, wE_dne, wEs_nil, wEs_cons, wO_none, wO_some, wI_ex, wI_enum, wI_range, wC_nil, wC_cons, wp_some, wp_map, getV_zero, getV_succ, opT, biT, cmpT, wp_add_int, wp_add_lst, wp_add_tup, wp_add_str, wp_sub_int, wp_mul_int, wp_mul_lst, wp_mul_str, wp_fdiv, wp_mod, wp_pow, wp_len_lst, wp_len_tup, wp_list_lst, wp_list_tup, wp_tuple_lst, wp_tuple_tup, wp_rev_lst, wp_rev_tup, wp_sl_lst, wp_sl_tup, wp_neg, wp_listOf, wp_intOf, wp_iter_lst, wp_iter_tup, wp_lt_int, wp_gt_int, wp_le_int, wp_ge_int, bind_nm, bind_tup, set_nil, set_cons, List.set_cons_zero, List.set_cons_succ, List.map_cons, List.map_nil, List.cons_append, List.nil_append, List.replicate, ne_eq, not_true_eq_false, not_false_eq_true, true_implies, false_implies, true_and, and_true, reduceCtorEq, truth, decide_eq_true_eq, endOf, ix1_0, ix2_0, ix2_1, ix3_0, ix3_1, ix3_2, mut_int, List.length_cons, List.length_nil, Nat.reduceAdd, Nat.zero_add, List.getElem?_cons_zero, List.getElem?_cons_succ, ↓reduceIte, Option.getD_none, Option.getD_some, Bool.not_false, Bool.not_true, Bool.false_eq_true, true_or, or_true, implies_true, forall_const, Option.map_some]
    refine ⟨D2, es ++ [r], some t, rfl, by rw [List.map_append]; rfl, fun x hx => ?_, by rw [List.length_append]; simp only [List.length_cons, List.length_nil]; omega, by rw [List.length_append]; exact hd2⟩
    rcases List.mem_append.mp hx with z | z
    · exact h4 x z
    · rw [List.mem_singleton.mp z]; omega
  rintro xs e ⟨D', es, x8, rfl, rfl, h4, hl, hd⟩
  have hl' : es.length = 4 := hl
  refine ⟨okLen_of (by rw [List.length_map]; omega), ?_⟩
  simp only [wB_cons, wB_nil, wS_asg, wS_par, wS_setix, wS_aug, wS_expr, wS_ret, wS_ite, wS_frz, wE_nm, wE_con, wE_bin, wE_neg, wE_cmp, wE_and, wE_or, wE_not, wE_ite, wE_tup, wE_lst, wE_ix, wE_sl, wE_rev, wE_call, wE_callio, wE_callk, wE_bi, wE_lrg, wE_pop, wE_popp, wE_app, wE_appp, wE_rem, wE_ixs, wE_dne, wEs_nil, wEs_cons, wO_none, wO_some, wI_ex, wI_enum, wI_range, wC_nil, wC_cons, wp_some, wp_map, getV_zero, getV_succ, opT, biT, cmpT, wp_add_int, wp_add_lst, wp_add_tup, wp_add_str, wp_sub_int, wp_mul_int, wp_mul_lst, wp_mul_str, wp_fdiv, wp_mod, wp_pow, wp_len_lst, wp_len_tup, wp_list_lst, wp_list_tup, wp_tuple_lst, wp_tuple_tup, wp_rev_lst, wp_rev_tup, wp_sl_lst, wp_sl_tup, wp_neg, wp_listOf, wp_intOf, wp_iter_lst, wp_iter_tup, wp_lt_int, wp_gt_int, wp_le_int, wp_ge_int, bind_nm, bind_tup, set_nil, set_cons, List.set_cons_zero, List.set_cons_succ, List.map_cons, List.map_nil, List.cons_append, List.nil_append, List.replicate, ne_eq, not_true_eq_false, not_false_eq_true, true_implies, false_implies, true_and, and_true, reduceCtorEq, truth, decide_eq_true_eq, endOf, ix1_0, ix2_0, ix2_1, ix3_0, ix3_1, ix3_2, mut_int, List.length_cons, List.length_nil, Nat.reduceAdd, Nat.zero_add, List.getElem?_cons_zero, List.getElem?_cons_succ, ↓reduceIte, Option.getD_none, Option.getD_some, Bool.not_false, Bool.not_true, Bool.false_eq_true, true_or, or_true, implies_true, forall_const, Option.map_some, restore, wipeE, Pat.slots, List.getElem?_nil, Option.join]
  clear hD hl
  refine wS_form es (fun k : Nat => T.int (k : Int)) (fun done e => ∃ (D' : T) (x3 x4 x5 x6 x7 : Option T), e = [some (.lst (ns.map .int)), some D', some (.lst (es.map (fun k : Nat => T.int (k : Int)))), x3, x4, x5, x6, x7, none, none] ∧ Deck (4 + 3100 * done.length) D') ?_
  simp only [wB_cons, wB_nil, wS_asg, wS_par, wS_setix, wS_aug, wS_expr, wS_ret, wS_ite, wS_frz, wE_nm, wE_con, wE_bin, wE_neg, wE_cmp, wE_and, wE_or, wE_not, wE_ite, wE_tup, wE_lst, wE_ix, wE_sl, wE_rev, wE_call, wE_callio, wE_callk, wE_bi, wE_lrg, wE_pop, wE_popp, wE_app, wE_appp, wE_rem, wE_ixs, wE_dne, wEs_nil, wEs_cons, wO_none, wO_some, wI_ex, wI_enum, wI_range, wC_nil, wC_cons, wp_some, wp_map, getV_zero, getV_succ, opT, biT, cmpT, wp_add_int, wp_add_lst, wp_add_tup, wp_add_str, wp_sub_int, wp_mul_int, wp_mul_lst, wp_mul_str, wp_fdiv, wp_mod, wp_pow, wp_len_lst, wp_len_tup, wp_list_lst, wp_list_tup, wp_tuple_lst, wp_tuple_tup, wp_rev_lst, wp_rev_tup, wp_sl_lst, wp_sl_tup, wp_neg, wp_listOf, wp_intOf, wp_iter_lst, wp_iter_tup, wp_lt_int, wp_gt_int, wp_le_int, wp_ge_int, bind_nm, bind_tup, set_nil, set_cons, List.set_cons_zero, List.set_cons_succ, List.map_cons, List.map_nil, List.cons_append, List.nil_append, List.replicate, ne_eq, not_true_eq_false, not_false_eq_true, true_implies, false_implies, true_and, and_true, reduceCtorEq, truth, decide_eq_true_eq, endOf, ix1_0, ix2_0, ix2_1, ix3_0, ix3_1, ix3_2, mut_int, List.length_cons, List.length_nil, Nat.reduceAdd, Nat.zero_add, List.getElem?_cons_zero, List.getElem?_cons_succ, ↓reduceIte, Option.getD_none, Option.getD_some, Bool.not_false, Bool.not_true, Bool.false_eq_true, true_or, or_true, implies_true, forall_const, Option.map_some]
  refine ⟨⟨D', _, _, _, _, _, rfl, hd.imp (by omega)⟩, ?_, ?_⟩
  · rintro ex done rest e el ⟨D2, x3, x4, x5, x6, x7, rfl, hd2⟩
    have dn : done.length < 4 := by
      have := congrArg List.length el
      rw [List.length_append, List.length_cons] at this
      omega
    simp only [wB_cons, wB_nil, wS_asg, wS_par, wS_setix, wS_aug, wS_expr, wS_ret, wS_ite, wS_frz, wE_nm, wE_con, wE_bin, wE_neg, wE_cmp, wE_and, wE_or, wE_not, wE_ite, wE_tup, wE_lst, wE_ix, wE_sl, wE_rev, wE_call, wE_callio, wE_callk, wE_bi, wE_lrg, wE_pop, wE_popp, wE_app, wE_appp, wE_rem, wE_ixs, wE_dne, wEs_nil, wEs_cons, wO_none, wO_some, wI_ex, wI_enum, wI_range, wC_nil, wC_cons, wp_some, wp_map, getV_zero, getV_succ, opT, biT, cmpT, wp_add_int, wp_add_lst, wp_add_tup, wp_add_str, wp_sub_int, wp_mul_int, wp_mul_lst, wp_mul_str, wp_fdiv, wp_mod, wp_pow, wp_len_lst, wp_len_tup, wp_list_lst, wp_list_tup, wp_tuple_lst, wp_tuple_tup, wp_rev_lst, wp_rev_tup, wp_sl_lst, wp_sl_tup, wp_neg, wp_listOf, wp_intOf, wp_iter_lst, wp_iter_tup, wp_lt_int, wp_gt_int, wp_le_int, wp_ge_int, bind_nm, bind_tup, set_nil, set_cons, List.set_cons_zero, List.set_cons_succ, List.map_cons, List.map_nil, List.cons_append, List.nil_append, List.replicate, ne_eq, not_true_eq_false, not_false_eq_true, true_implies, false_implies, true_and, and_true, reduceCtorEq, truth, decide_eq_true_eq, endOf, ix1_0, ix2_0, ix2_1, ix3_0, ix3_1, ix3_2, mut_int, List.length_cons, List.length_nil, Nat.reduceAdd, Nat.zero_add, List.getElem?_cons_zero, List.getElem?_cons_succ, ↓reduceIte, Option.getD_none, Option.getD_some, Bool.not_false, Bool.not_true, Bool.false_eq_true, true_or, or_true, implies_true, forall_const, Option.map_some]
    refine eaten hd2 (by omega) (h4 ex (by rw [el]; simp)) fun S D3 red s0 s8 sw hd3 => ?_
    have F : Fit S := ⟨s0, by omega, fun g hg => Nat.le_trans (sw g hg).1 (by decide), fun g hg => (sw g hg).2⟩
    simp only [wB_cons, wB_nil, wS_asg, wS_par, wS_setix, wS_aug, wS_expr, wS_ret, wS_ite, wS_frz, wE_nm, wE_con, wE_bin, wE_neg, wE_cmp, wE_and, wE_or, wE_not, wE_ite, wE_tup, wE_lst, wE_ix, wE_sl, wE_rev, wE_call, wE_callio, wE_callk, wE_bi, wE_lrg, wE_pop, wE_popp, wE_app, wE_appp, wE_rem, wE_ixs, wE_dne, wEs_nil, wEs_cons, wO_none, wO_some, wI_ex, wI_enum, wI_range, wC_nil, wC_cons, wp_some, wp_map, getV_zero, getV_succ, opT, biT, cmpT, wp_add_int, wp_add_lst, wp_add_tup, wp_add_str, wp_sub_int, wp_mul_int, wp_mul_lst, wp_mul_str, wp_fdiv, wp_mod, wp_pow, wp_len_lst, wp_len_tup, wp_list_lst, wp_list_tup, wp_tuple_lst, wp_tuple_tup, wp_rev_lst, wp_rev_tup, wp_sl_lst, wp_sl_tup, wp_neg, wp_listOf, wp_intOf, wp_iter_lst, wp_iter_tup, wp_lt_int, wp_gt_int, wp_le_int, wp_ge_int, bind_nm, bind_tup, set_nil, set_cons, List.set_cons_zero, List.set_cons_succ, List.map_cons, List.map_nil, List.cons_append, List.nil_append, List.replicate, ne_eq, not_true_eq_false, not_false_eq_true, true_implies, false_implies, true_and, and_true, reduceCtorEq, truth, decide_eq_true_eq, endOf, ix1_0, ix2_0, ix2_1, ix3_0, ix3_1, ix3_2, mut_int, List.length_cons, List.length_nil, Nat.reduceAdd, Nat.zero_add, List.getElem?_cons_zero, List.getElem?_cons_succ, ↓reduceIte, Option.getD_none, Option.getD_some, Bool.not_false, Bool.not_true, Bool.false_eq_true, true_or, or_true, implies_true, forall_const, Option.map_some]
    refine wS_form S tS (fun dn e => ∃ (x6 : Option T) (cl : List Tx), e = [some (.lst (ns.map .int)), some D3, some (.lst (es.map (fun k : Nat => T.int (k : Int)))), some (.int (ex : Int)), some (tSets S), some (.lst (cl.map .str)), x6, x7, none, none] ∧ cl.length ≤ 100 * dn.length ∧ ∀ s ∈ cl, ∃ g ∈ S, s ∈ g) ?_
    simp only [wB_cons, wB_nil, wS_asg, wS_par, wS_setix, wS_aug, wS_expr, wS_ret, wS_ite, wS_frz, wE_nm, wE_con, wE_bin, wE_neg, wE_cmp, wE_and, wE_or, wE_not, wE_ite, wE_tup, wE_lst, wE_ix, wE_sl, wE_rev, wE_call, wE_callio, wE_callk, wE_bi, wE_lrg, wE_pop, wE_popp, wE_app, wE_appp, wE_rem, wE_ixs, wE_dne, wEs_nil, wEs_cons, wO_none, wO_some, wI_ex, wI_enum, wI_range, wC_nil, wC_cons, wp_some, wp_map, getV_zero, getV_succ, opT, biT, cmpT, wp_add_int, wp_add_lst, wp_add_tup, wp_add_str, wp_sub_int, wp_mul_int, wp_mul_lst, wp_mul_str, wp_fdiv, wp_mod, wp_pow, wp_len_lst, wp_len_tup, wp_list_lst, wp_list_tup, wp_tuple_lst, wp_tuple_tup, wp_rev_lst, wp_rev_tup, wp_sl_lst, wp_sl_tup, wp_neg, wp_listOf, wp_intOf, wp_iter_lst, wp_iter_tup, wp_lt_int, wp_gt_int, wp_le_int, wp_ge_int, bind_nm, bind_tup, set_nil, set_cons, List.set_cons_zero, List.set_cons_succ, List.map_cons, List.map_nil, List.cons_append, List.nil_append, List.replicate, ne_eq, not_true_eq_false, not_false_eq_true, true_implies, false_implies, true_and, and_true, reduceCtorEq, truth, decide_eq_true_eq, endOf, ix1_0, ix2_0, ix2_1, ix3_0, ix3_1, ix3_2, mut_int, List.length_cons, List.length_nil, Nat.reduceAdd, Nat.zero_add, List.getElem?_cons_zero, List.getElem?_cons_succ, ↓reduceIte, Option.getD_none, Option.getD_some, Bool.not_false, Bool.not_true, Bool.false_eq_true, true_or, or_true, implies_true, forall_const, Option.map_some, iter_sets]
    refine ⟨⟨_, [], rfl, Nat.zero_le _, fun _ h => (by cases h)⟩, ?_, ?_⟩
    · rintro g dn rest e el2 ⟨x6, cl, rfl, cle, cs⟩
      have gS : g ∈ S := by rw [el2]; simp
      simp only [wB_cons, wB_nil, wS_asg, wS_par, wS_setix, wS_aug, wS_expr, wS_ret, wS_ite, wS_frz, wE_nm, wE_con, wE_bin, wE_neg, wE_cmp, wE_and, wE_or, wE_not, wE_ite, wE_tup, wE_lst, wE_ix, wE_sl, wE_rev, wE_call, wE_callio, wE_callk, wE_bi, wE_lrg, wE_pop, wE_popp, wE_app, wE_appp, wE_rem, wE_ixs, wE_dne, wEs_nil, wEs_cons, wO_none, wO_some, wI_ex, wI_enum, wI_range, wC_nil, wC_cons, wp_some, wp_map, getV_zero, getV_succ, opT, biT, cmpT, wp_add_int, wp_add_lst, wp_add_tup, wp_add_str, wp_sub_int, wp_mul_int, wp_mul_lst, wp_mul_str, wp_fdiv, wp_mod, wp_pow, wp_len_lst, wp_len_tup, wp_list_lst, wp_list_tup, wp_tuple_lst, wp_tuple_tup, wp_rev_lst, wp_rev_tup, wp_sl_lst, wp_sl_tup, wp_neg, wp_listOf, wp_intOf, wp_iter_lst, wp_iter_tup, wp_lt_int, wp_gt_int, wp_le_int, wp_ge_int, bind_nm, bind_tup, set_nil, set_cons, List.set_cons_zero, List.set_cons_succ, List.map_cons, List.map_nil, List.cons_append, List.nil_append, List.replicate, ne_eq, not_true_eq_false, not_false_eq_true, true_implies, false_implies, true_and, and_true, reduceCtorEq, truth, decide_eq_true_eq, endOf, ix1_0, ix2_0, ix2_1, ix3_0, ix3_1, ix3_2, mut_int, List.length_cons, List.length_nil, Nat.reduceAdd, Nat.zero_add, List.getElem?_cons_zero, List.getElem?_cons_succ, ↓reduceIte, Option.getD_none, Option.getD_some, Bool.not_false, Bool.not_true, Bool.false_eq_true, true_or, or_true, implies_true, forall_const, Option.map_some]
      refine wE_lcm g T.str (fun s => !decide (s ∈ cl)) T.str ?_
      simp only [wB_cons, wB_nil, wS_asg, wS_par, wS_setix, wS_aug, wS_expr, wS_ret, wS_ite, wS_frz, wE_nm, wE_con, wE_bin, wE_neg, wE_cmp, wE_and, wE_or, wE_not, wE_ite, wE_tup, wE_lst, wE_ix, wE_sl, wE_rev, wE_call, wE_callio, wE_callk, wE_bi, wE_lrg, wE_pop, wE_popp, wE_app, wE_appp, wE_rem, wE_ixs, wE_dne, wEs_nil, wEs_cons, wO_none, wO_some, wI_ex, wI_enum, wI_range, wC_nil, wC_cons, wp_some, wp_map, getV_zero, getV_succ, opT, biT, cmpT, wp_add_int, wp_add_lst, wp_add_tup, wp_add_str, wp_sub_int, wp_mul_int, wp_mul_lst, wp_mul_str, wp_fdiv, wp_mod, wp_pow, wp_len_lst, wp_len_tup, wp_list_lst, wp_list_tup, wp_tuple_lst, wp_tuple_tup, wp_rev_lst, wp_rev_tup, wp_sl_lst, wp_sl_tup, wp_neg, wp_listOf, wp_intOf, wp_iter_lst, wp_iter_tup, wp_lt_int, wp_gt_int, wp_le_int, wp_ge_int, bind_nm, bind_tup, set_nil, set_cons, List.set_cons_zero, List.set_cons_succ, List.map_cons, List.map_nil, List.cons_append, List.nil_append, List.replicate, ne_eq, not_true_eq_false, not_false_eq_true, true_implies, false_implies, true_and, and_true, reduceCtorEq, truth, decide_eq_true_eq, endOf, ix1_0, ix2_0, ix2_1, ix3_0, ix3_1, ix3_2, mut_int, List.length_cons, List.length_nil, Nat.reduceAdd, Nat.zero_add, List.getElem?_cons_zero, List.getElem?_cons_succ, ↓reduceIte, Option.getD_none, Option.getD_some, Bool.not_false, Bool.not_true, Bool.false_eq_true, true_or, or_true, implies_true, forall_const, Option.map_some, Pat.slots, wipeE, wp_iter_tS, wp_in_strl]
      have gl := (sw g gS).1
      refine ⟨fun s _ => ?_, by omega, ?_⟩
      · by_cases z : s ∈ cl <;> simp [z]
      simp only [wB_cons, wB_nil, wS_asg, wS_par, wS_setix, wS_aug, wS_expr, wS_ret, wS_ite, wS_frz, wE_nm, wE_con, wE_bin, wE_neg, wE_cmp, wE_and, wE_or, wE_not, wE_ite, wE_tup, wE_lst, wE_ix, wE_sl, wE_rev, wE_call, wE_callio, wE_callk, wE_bi, wE_lrg, wE_pop, wE_popp, wE_app, wE_appp, wE_rem, wE_ixs, wE_dne, wEs_nil, wEs_cons, wO_none, wO_some, wI_ex, wI_enum, wI_range, wC_nil, wC_cons, wp_some, wp_map, getV_zero, getV_succ, opT, biT, cmpT, wp_add_int, wp_add_lst, wp_add_tup, wp_add_str, wp_sub_int, wp_mul_int, wp_mul_lst, wp_mul_str, wp_fdiv, wp_mod, wp_pow, wp_len_lst, wp_len_tup, wp_list_lst, wp_list_tup, wp_tuple_lst, wp_tuple_tup, wp_rev_lst, wp_rev_tup, wp_sl_lst, wp_sl_tup, wp_neg, wp_listOf, wp_intOf, wp_iter_lst, wp_iter_tup, wp_lt_int, wp_gt_int, wp_le_int, wp_ge_int, bind_nm, bind_tup, set_nil, set_cons, List.set_cons_zero, List.set_cons_succ, List.map_cons, List.map_nil, List.cons_append, List.nil_append, List.replicate, ne_eq, not_true_eq_false, not_false_eq_true, true_implies, false_implies, true_and, and_true, reduceCtorEq, truth, decide_eq_true_eq, endOf, ix1_0, ix2_0, ix2_1, ix3_0, ix3_1, ix3_2, mut_int, List.length_cons, List.length_nil, Nat.reduceAdd, Nat.zero_add, List.getElem?_cons_zero, List.getElem?_cons_succ, ↓reduceIte, Option.getD_none, Option.getD_some, Bool.not_false, Bool.not_true, Bool.false_eq_true, true_or, or_true, implies_true, forall_const, Option.map_some, List.length_map]
      have fl : (g.filter fun s => !decide (s ∈ cl)).length ≤ 60 := Nat.le_trans (List.length_filter_le _ _) gl
      have dl : dn.length ≤ 8 := by
        have := congrArg List.length el2
        rw [List.length_append] at this
        omega
      refine ⟨okLen_of (by omega), some (tS g), cl ++ g.filter fun s => !decide (s ∈ cl), ?_, ?_, fun s hs => ?_⟩
      · rw [List.map_append]
      · rw [List.length_append, List.length_append]; simp only [List.length_cons, List.length_nil]; omega
      · rcases List.mem_append.mp hs with z | z
        · exact cs s z
        · exact ⟨g, gS, (List.mem_filter.mp z).1⟩
    · rintro e ⟨x6, cl, rfl, cle, cs⟩
      refine wS_form (List.range 3) (fun k : Nat => T.int (0 + (k : Int))) (fun dn e => ∃ (D' : T) (x7 : Option T), e = [some (.lst (ns.map .int)), some D', some (.lst (es.map (fun k : Nat => T.int (k : Int)))), some (.int (ex : Int)), some (tSets S), some (.lst (cl.map .str)), x6, x7, none, none] ∧ Deck (4 + 3100 * done.length + 3000 + 9 * dn.length) D') ?_
      simp only [wB_cons, wB_nil, wS_asg, wS_par, wS_setix, wS_aug, wS_expr, wS_ret, wS_ite, wS_frz, wE_nm, wE_con, wE_bin, wE_neg, wE_cmp, wE_and, wE_or, wE_not, wE_ite, wE_tup, wE_lst, wE_ix, wE_sl, wE_rev, wE_call, wE_callio, wE_callk, wE_bi, wE_lrg, wE_pop, wE_popp, wE_app, wE_appp, wE_rem, wE_ixs, wE_dne, wEs_nil, wEs_cons, wO_none, wO_some, wI_ex, wI_enum, wI_range, wC_nil, wC_cons, wp_some, wp_map, getV_zero, getV_succ, opT, biT, cmpT, wp_add_int, wp_add_lst, wp_add_tup, wp_add_str, wp_sub_int, wp_mul_int, wp_mul_lst, wp_mul_str, wp_fdiv, wp_mod, wp_pow, wp_len_lst, wp_len_tup, wp_list_lst, wp_list_tup, wp_tuple_lst, wp_tuple_tup, wp_rev_lst, wp_rev_tup, wp_sl_lst, wp_sl_tup, wp_neg, wp_listOf, wp_intOf, wp_iter_lst, wp_iter_tup, wp_lt_int, wp_gt_int, wp_le_int, wp_ge_int, bind_nm, bind_tup, set_nil, set_cons, List.set_cons_zero, List.set_cons_succ, List.map_cons, List.map_nil, List.cons_append, List.nil_append, List.replicate, ne_eq, not_true_eq_false, not_false_eq_true, true_implies, false_implies, true_and, and_true, reduceCtorEq, truth, decide_eq_true_eq, endOf, ix1_0, ix2_0, ix2_1, ix3_0, ix3_1, ix3_2, mut_int, List.length_cons, List.length_nil, Nat.reduceAdd, Nat.zero_add, List.getElem?_cons_zero, List.getElem?_cons_succ, ↓reduceIte, Option.getD_none, Option.getD_some, Bool.not_false, Bool.not_true, Bool.false_eq_true, true_or, or_true, implies_true, forall_const, Option.map_some]
      refine ⟨by decide, rfl, ⟨D3, _, rfl, hd3⟩, ?_, ?_⟩
      · rintro ag dn rest e el3 ⟨D4, y7, rfl, hd4⟩
        have d3 : dn.length < 3 := by
          have := congrArg List.length el3
          rw [List.length_append, List.length_cons, List.length_range] at this
          omega
        simp only [wB_cons, wB_nil, wS_asg, wS_par, wS_setix, wS_aug, wS_expr, wS_ret, wS_ite, wS_frz, wE_nm, wE_con, wE_bin, wE_neg, wE_cmp, wE_and, wE_or, wE_not, wE_ite, wE_tup, wE_lst, wE_ix, wE_sl, wE_rev, wE_call, wE_callio, wE_callk, wE_bi, wE_lrg, wE_pop, wE_popp, wE_app, wE_appp, wE_rem, wE_ixs, wE_dne, wEs_nil, wEs_cons, wO_none, wO_some, wI_ex, wI_enum, wI_range, wC_nil, wC_cons, wp_some, wp_map, getV_zero, getV_succ, opT, biT, cmpT, wp_add_int, wp_add_lst, wp_add_tup, wp_add_str, wp_sub_int, wp_mul_int, wp_mul_lst, wp_mul_str, wp_fdiv, wp_mod, wp_pow, wp_len_lst, wp_len_tup, wp_list_lst, wp_list_tup, wp_tuple_lst, wp_tuple_tup, wp_rev_lst, wp_rev_tup, wp_sl_lst, wp_sl_tup, wp_neg, wp_listOf, wp_intOf, wp_iter_lst, wp_iter_tup, wp_lt_int, wp_gt_int, wp_le_int, wp_ge_int, bind_nm, bind_tup, set_nil, set_cons, List.set_cons_zero, List.set_cons_succ, List.map_cons, List.map_nil, List.cons_append, List.nil_append, List.replicate, ne_eq, not_true_eq_false, not_false_eq_true, true_implies, false_implies, true_and, and_true, reduceCtorEq, truth, decide_eq_true_eq, endOf, ix1_0, ix2_0, ix2_1, ix3_0, ix3_1, ix3_2, mut_int, List.length_cons, List.length_nil, Nat.reduceAdd, Nat.zero_add, List.getElem?_cons_zero, List.getElem?_cons_succ, ↓reduceIte, Option.getD_none, Option.getD_some, Bool.not_false, Bool.not_true, Bool.false_eq_true, true_or, or_true, implies_true, forall_const, Option.map_some]
        refine order hd4 (by omega) red s0 (by omega) F.w fun ps e D5 hl5 hp5 he5 hc5 hd5 => ?_
        simp only [wB_cons, wB_nil, wS_asg, wS_par, wS_setix, wS_aug, wS_expr, wS_ret, wS_ite, wS_frz, wE_nm, wE_con, wE_bin, wE_neg, wE_cmp, wE_and, wE_or, wE_not, wE_ite, wE_tup, wE_lst, wE_ix, wE_sl, wE_rev, wE_call, wE_callio, wE_callk, wE_bi, wE_lrg, wE_pop, wE_popp, wE_app, wE_appp, wE_rem, wE_ixs, wE_dne, wEs_nil, wEs_cons, wO_none, wO_some, wI_ex, wI_enum, wI_range, wC_nil, wC_cons, wp_some, wp_map, getV_zero, getV_succ, opT, biT, cmpT, wp_add_int, wp_add_lst, wp_add_tup, wp_add_str, wp_sub_int, wp_mul_int, wp_mul_lst, wp_mul_str, wp_fdiv, wp_mod, wp_pow, wp_len_lst, wp_len_tup, wp_list_lst, wp_list_tup, wp_tuple_lst, wp_tuple_tup, wp_rev_lst, wp_rev_tup, wp_sl_lst, wp_sl_tup, wp_neg, wp_listOf, wp_intOf, wp_iter_lst, wp_iter_tup, wp_lt_int, wp_gt_int, wp_le_int, wp_ge_int, bind_nm, bind_tup, set_nil, set_cons, List.set_cons_zero, List.set_cons_succ, List.map_cons, List.map_nil, List.cons_append, List.nil_append, List.replicate, ne_eq, not_true_eq_false, not_false_eq_true, true_implies, false_implies, true_and, and_true, reduceCtorEq, truth, decide_eq_true_eq, endOf, ix1_0, ix2_0, ix2_1, ix3_0, ix3_1, ix3_2, mut_int, List.length_cons, List.length_nil, Nat.reduceAdd, Nat.zero_add, List.getElem?_cons_zero, List.getElem?_cons_succ, ↓reduceIte, Option.getD_none, Option.getD_some, Bool.not_false, Bool.not_true, Bool.false_eq_true, true_or, or_true, implies_true, forall_const, Option.map_some]
        refine right F hl5 hp5 he5 (by omega) (fun s hs => ?_) ?_
        · obtain ⟨g, hg, sg⟩ := cs s hs
          exact hc5 g hg s sg
        · simp only [wB_cons, wB_nil, wS_asg, wS_par, wS_setix, wS_aug, wS_expr, wS_ret, wS_ite, wS_frz, wE_nm, wE_con, wE_bin, wE_neg, wE_cmp, wE_and, wE_or, wE_not, wE_ite, wE_tup, wE_lst, wE_ix, wE_sl, wE_rev, wE_call, wE_callio, wE_callk, wE_bi, wE_lrg, wE_pop, wE_popp, wE_app, wE_appp, wE_rem, wE_ixs, wE_dne, wEs_nil, wEs_cons, wO_none, wO_some, wI_ex, wI_enum, wI_range, wC_nil, wC_cons, wp_some, wp_map, getV_zero, getV_succ, opT, biT, cmpT, wp_add_int, wp_add_lst, wp_add_tup, wp_add_str, wp_sub_int, wp_mul_int, wp_mul_lst, wp_mul_str, wp_fdiv, wp_mod, wp_pow, wp_len_lst, wp_len_tup, wp_list_lst, wp_list_tup, wp_tuple_lst, wp_tuple_tup, wp_rev_lst, wp_rev_tup, wp_sl_lst, wp_sl_tup, wp_neg, wp_listOf, wp_intOf, wp_iter_lst, wp_iter_tup, wp_lt_int, wp_gt_int, wp_le_int, wp_ge_int, bind_nm, bind_tup, set_nil, set_cons, List.set_cons_zero, List.set_cons_succ, List.map_cons, List.map_nil, List.cons_append, List.nil_append, List.replicate, ne_eq, not_true_eq_false, not_false_eq_true, true_implies, false_implies, true_and, and_true, reduceCtorEq, truth, decide_eq_true_eq, endOf, ix1_0, ix2_0, ix2_1, ix3_0, ix3_1, ix3_2, mut_int, List.length_cons, List.length_nil, Nat.reduceAdd, Nat.zero_add, List.getElem?_cons_zero, List.getElem?_cons_succ, ↓reduceIte, Option.getD_none, Option.getD_some, Bool.not_false, Bool.not_true, Bool.false_eq_true, true_or, or_true, implies_true, forall_const, Option.map_some]
          exact ⟨D5, _, rfl, hd5.imp (by rw [List.length_append]; simp only [List.length_cons, List.length_nil]; omega)⟩
      · rintro e ⟨D4, y7, rfl, hd4⟩
        exact ⟨D4, _, _, _, _, _, rfl, hd4.imp (by rw [List.length_append, List.length_range]; simp only [List.length_cons, List.length_nil]; omega)⟩
  · rintro e ⟨D', x3, x4, x5, x6, x7, rfl, hd'⟩
    exact h
theorem plain : ∀ ns : List Int, ns.length ≤ 63 → ∃ out, Pv.callN tbl 5 13 [.lst (ns.map Pv.T.int)] = some (.bl true, out) := fun ns _ => by
  obtain ⟨⟨v, o⟩, e, h⟩ := law (ns := ns) (P := fun v _ => v = .bl true) rfl
  have h : v = .bl true := h
  subst h
  exact ⟨o, e⟩
end K10
end


section
set_option Elab.async false
set_option linter.all false
set_option maxRecDepth 100000
set_option maxHeartbeats 4000000
namespace K10
open PySem PySem.Spec PyProof.Rows L2
theorem ck0 : Pv.ckDf G tbl 0 (dfs.getD 0 ⟨"", .Pass ⟨0, 0, 0, 0⟩, [], [], []⟩) = true := by decide +kernel
theorem ck1 : Pv.ckDf G tbl 1 (dfs.getD 1 ⟨"", .Pass ⟨0, 0, 0, 0⟩, [], [], []⟩) = true := by decide +kernel
theorem ck2 : Pv.ckDf G tbl 2 (dfs.getD 2 ⟨"", .Pass ⟨0, 0, 0, 0⟩, [], [], []⟩) = true := by decide +kernel
theorem ck3 : Pv.ckDf G tbl 3 (dfs.getD 3 ⟨"", .Pass ⟨0, 0, 0, 0⟩, [], [], []⟩) = true := by decide +kernel
theorem ck4 : Pv.ckDf G tbl 4 (dfs.getD 4 ⟨"", .Pass ⟨0, 0, 0, 0⟩, [], [], []⟩) = true := by decide +kernel
theorem ck5 : Pv.ckDf G tbl 5 (dfs.getD 5 ⟨"", .Pass ⟨0, 0, 0, 0⟩, [], [], []⟩) = true := by decide +kernel
theorem ck6 : Pv.ckDf G tbl 6 (dfs.getD 6 ⟨"", .Pass ⟨0, 0, 0, 0⟩, [], [], []⟩) = true := by decide +kernel
theorem ck7 : Pv.ckDf G tbl 7 (dfs.getD 7 ⟨"", .Pass ⟨0, 0, 0, 0⟩, [], [], []⟩) = true := by decide +kernel
theorem ck8 : Pv.ckDf G tbl 8 (dfs.getD 8 ⟨"", .Pass ⟨0, 0, 0, 0⟩, [], [], []⟩) = true := by decide +kernel
theorem ck9 : Pv.ckDf G tbl 9 (dfs.getD 9 ⟨"", .Pass ⟨0, 0, 0, 0⟩, [], [], []⟩) = true := by decide +kernel
theorem ck10 : Pv.ckDf G tbl 10 (dfs.getD 10 ⟨"", .Pass ⟨0, 0, 0, 0⟩, [], [], []⟩) = true := by decide +kernel
theorem ck11 : Pv.ckDf G tbl 11 (dfs.getD 11 ⟨"", .Pass ⟨0, 0, 0, 0⟩, [], [], []⟩) = true := by decide +kernel
theorem ck12 : Pv.ckDf G tbl 12 (dfs.getD 12 ⟨"", .Pass ⟨0, 0, 0, 0⟩, [], [], []⟩) = true := by decide +kernel
theorem ck13 : Pv.ckDf G tbl 13 (dfs.getD 13 ⟨"", .Pass ⟨0, 0, 0, 0⟩, [], [], []⟩) = true := by decide +kernel
theorem ck : ∀ (f : Nat) (df : Pv.Df), dfs[f]? = some df → Pv.ckDf G tbl f df = true := Pv.allFrom_get (P := fun f df => Pv.ckDf G tbl f df = true) ⟨ck0, ck1, ck2, ck3, ck4, ck5, ck6, ck7, ck8, ck9, ck10, ck11, ck12, ck13, trivial⟩
theorem all_mk {l : PySem.W.OpenLaw} {w : World} {K : PySem.W.Frag} {h : Heap} {mg : Str → Option Value} {fa : Addr} (X : K.In h) (Gn : h.Ns mainGlobals mg) (hfa : mg "law" = some (.ref fa))
    {f0_ : Addr} {od0 an0 : Option Addr} {sl0 : Array (Option Value)} {oc0 kV0 dc0 pm0 cd0 ct0 : Value}
    {f1_ : Addr} {od1 an1 : Option Addr} {sl1 : Array (Option Value)} {oc1 kV1 dc1 pm1 cd1 ct1 : Value}
    {f2_ : Addr} {od2 an2 : Option Addr} {sl2 : Array (Option Value)} {oc2 kV2 dc2 pm2 cd2 ct2 : Value}
    {f3_ : Addr} {od3 an3 : Option Addr} {sl3 : Array (Option Value)} {oc3 kV3 dc3 pm3 cd3 ct3 : Value}
    {f4_ : Addr} {od4 an4 : Option Addr} {sl4 : Array (Option Value)} {oc4 kV4 dc4 pm4 cd4 ct4 : Value}
    {f5_ : Addr} {od5 an5 : Option Addr} {sl5 : Array (Option Value)} {oc5 kV5 dc5 pm5 cd5 ct5 : Value}
    {f6_ : Addr} {od6 an6 : Option Addr} {sl6 : Array (Option Value)} {oc6 kV6 dc6 pm6 cd6 ct6 : Value}
    {f7_ : Addr} {od7 an7 : Option Addr} {sl7 : Array (Option Value)} {oc7 kV7 dc7 pm7 cd7 ct7 : Value}
    {f8_ : Addr} {od8 an8 : Option Addr} {sl8 : Array (Option Value)} {oc8 kV8 dc8 pm8 cd8 ct8 : Value}
    {f9_ : Addr} {od9 an9 : Option Addr} {sl9 : Array (Option Value)} {oc9 kV9 dc9 pm9 cd9 ct9 : Value}
    {f10_ : Addr} {od10 an10 : Option Addr} {sl10 : Array (Option Value)} {oc10 kV10 dc10 pm10 cd10 ct10 : Value}
    {f11_ : Addr} {od11 an11 : Option Addr} {sl11 : Array (Option Value)} {oc11 kV11 dc11 pm11 cd11 ct11 : Value}
    {f12_ : Addr} {od12 an12 : Option Addr} {sl12 : Array (Option Value)} {oc12 kV12 dc12 pm12 cd12 ct12 : Value}
    {f13_ : Addr} {od13 an13 : Option Addr} {sl13 : Array (Option Value)} {oc13 kV13 dc13 pm13 cd13 ct13 : Value}
    (a0 : PySem.W.nsIn K mainGlobals "common" = some (some (.ref f0_))) (l0 : K.lookup f0_ = some ⟨oc0, od0, .func (PySem.W.fnOf "common" "common" (defArgs (topS 1)) (defBody (topS 1)) (defScope (topS 1)) .none kV0 dc0 pm0 an0 cd0 ct0), sl0⟩) (c0 : PySem.W.codeIn K cd0 "common" = true) (k0 : PySem.W.keepIn K (.ref f0_) = true)
    (a1 : PySem.W.nsIn K mainGlobals "cuts_of" = some (some (.ref f1_))) (l1 : K.lookup f1_ = some ⟨oc1, od1, .func (PySem.W.fnOf "cuts_of" "cuts_of" (defArgs (topS 2)) (defBody (topS 2)) (defScope (topS 2)) .none kV1 dc1 pm1 an1 cd1 ct1), sl1⟩) (c1 : PySem.W.codeIn K cd1 "cuts_of" = true) (k1 : PySem.W.keepIn K (.ref f1_) = true)
    (a2 : PySem.W.nsIn K mainGlobals "_law_deck" = some (some (.ref f2_))) (l2 : K.lookup f2_ = some ⟨oc2, od2, .func (PySem.W.fnOf "_law_deck" "_law_deck" (defArgs (topS 4)) (defBody (topS 4)) (defScope (topS 4)) .none kV2 dc2 pm2 an2 cd2 ct2), sl2⟩) (c2 : PySem.W.codeIn K cd2 "_law_deck" = true) (k2 : PySem.W.keepIn K (.ref f2_) = true)
    (a3 : PySem.W.nsIn K mainGlobals "_law_draw" = some (some (.ref f3_))) (l3 : K.lookup f3_ = some ⟨oc3, od3, .func (PySem.W.fnOf "_law_draw" "_law_draw" (defArgs (topS 5)) (defBody (topS 5)) (defScope (topS 5)) .none kV3 dc3 pm3 an3 cd3 ct3), sl3⟩) (c3 : PySem.W.codeIn K cd3 "_law_draw" = true) (k3 : PySem.W.keepIn K (.ref f3_) = true)
    (a4 : PySem.W.nsIn K mainGlobals "_law_pick" = some (some (.ref f4_))) (l4 : K.lookup f4_ = some ⟨oc4, od4, .func (PySem.W.fnOf "_law_pick" "_law_pick" (defArgs (topS 6)) (defBody (topS 6)) (defScope (topS 6)) .none kV4 dc4 pm4 an4 cd4 ct4), sl4⟩) (c4 : PySem.W.codeIn K cd4 "_law_pick" = true) (k4 : PySem.W.keepIn K (.ref f4_) = true)
    (a5 : PySem.W.nsIn K mainGlobals "_law_called" = some (some (.ref f5_))) (l5 : K.lookup f5_ = some ⟨oc5, od5, .func (PySem.W.fnOf "_law_called" "_law_called" (defArgs (topS 7)) (defBody (topS 7)) (defScope (topS 7)) .none kV5 dc5 pm5 an5 cd5 ct5), sl5⟩) (c5 : PySem.W.codeIn K cd5 "_law_called" = true) (k5 : PySem.W.keepIn K (.ref f5_) = true)
    (a6 : PySem.W.nsIn K mainGlobals "_law_some" = some (some (.ref f6_))) (l6 : K.lookup f6_ = some ⟨oc6, od6, .func (PySem.W.fnOf "_law_some" "_law_some" (defArgs (topS 8)) (defBody (topS 8)) (defScope (topS 8)) .none kV6 dc6 pm6 an6 cd6 ct6), sl6⟩) (c6 : PySem.W.codeIn K cd6 "_law_some" = true) (k6 : PySem.W.keepIn K (.ref f6_) = true)
    (a7 : PySem.W.nsIn K mainGlobals "_law_tree" = some (some (.ref f7_))) (l7 : K.lookup f7_ = some ⟨oc7, od7, .func (PySem.W.fnOf "_law_tree" "_law_tree" (defArgs (topS 9)) (defBody (topS 9)) (defScope (topS 9)) .none kV7 dc7 pm7 an7 cd7 ct7), sl7⟩) (c7 : PySem.W.codeIn K cd7 "_law_tree" = true) (k7 : PySem.W.keepIn K (.ref f7_) = true)
    (a8 : PySem.W.nsIn K mainGlobals "_law_eaten_sets" = some (some (.ref f8_))) (l8 : K.lookup f8_ = some ⟨oc8, od8, .func (PySem.W.fnOf "_law_eaten_sets" "_law_eaten_sets" (defArgs (topS 10)) (defBody (topS 10)) (defScope (topS 10)) .none kV8 dc8 pm8 an8 cd8 ct8), sl8⟩) (c8 : PySem.W.codeIn K cd8 "_law_eaten_sets" = true) (k8 : PySem.W.keepIn K (.ref f8_) = true)
    (a9 : PySem.W.nsIn K mainGlobals "_law_may_go" = some (some (.ref f9_))) (l9 : K.lookup f9_ = some ⟨oc9, od9, .func (PySem.W.fnOf "_law_may_go" "_law_may_go" (defArgs (topS 11)) (defBody (topS 11)) (defScope (topS 11)) .none kV9 dc9 pm9 an9 cd9 ct9), sl9⟩) (c9 : PySem.W.codeIn K cd9 "_law_may_go" = true) (k9 : PySem.W.keepIn K (.ref f9_) = true)
    (a10 : PySem.W.nsIn K mainGlobals "_law_drawn_order" = some (some (.ref f10_))) (l10 : K.lookup f10_ = some ⟨oc10, od10, .func (PySem.W.fnOf "_law_drawn_order" "_law_drawn_order" (defArgs (topS 12)) (defBody (topS 12)) (defScope (topS 12)) .none kV10 dc10 pm10 an10 cd10 ct10), sl10⟩) (c10 : PySem.W.codeIn K cd10 "_law_drawn_order" = true) (k10 : PySem.W.keepIn K (.ref f10_) = true)
    (a11 : PySem.W.nsIn K mainGlobals "_law_in" = some (some (.ref f11_))) (l11 : K.lookup f11_ = some ⟨oc11, od11, .func (PySem.W.fnOf "_law_in" "_law_in" (defArgs (topS 13)) (defBody (topS 13)) (defScope (topS 13)) .none kV11 dc11 pm11 an11 cd11 ct11), sl11⟩) (c11 : PySem.W.codeIn K cd11 "_law_in" = true) (k11 : PySem.W.keepIn K (.ref f11_) = true)
    (a12 : PySem.W.nsIn K mainGlobals "_law_right" = some (some (.ref f12_))) (l12 : K.lookup f12_ = some ⟨oc12, od12, .func (PySem.W.fnOf "_law_right" "_law_right" (defArgs (topS 14)) (defBody (topS 14)) (defScope (topS 14)) .none kV12 dc12 pm12 an12 cd12 ct12), sl12⟩) (c12 : PySem.W.codeIn K cd12 "_law_right" = true) (k12 : PySem.W.keepIn K (.ref f12_) = true)
    (a13 : PySem.W.nsIn K mainGlobals "law" = some (some (.ref f13_))) (l13 : K.lookup f13_ = some ⟨oc13, od13, .func (PySem.W.fnOf "law" "law" (defArgs (topS 15)) (defBody (topS 15)) (defScope (topS 15)) .none kV13 dc13 pm13 an13 cd13 ct13), sl13⟩) (c13 : PySem.W.codeIn K cd13 "law" = true) (k13 : PySem.W.keepIn K (.ref f13_) = true)
    (z0 : PySem.W.nsIn K mainGlobals "enumerate" = some none) (z1 : PySem.W.nsIn K mainGlobals "len" = some none) (z2 : PySem.W.nsIn K mainGlobals "list" = some none) (z3 : PySem.W.nsIn K mainGlobals "range" = some none) (z4 : PySem.W.nsIn K mainGlobals "repr" = some none) (z5 : PySem.W.nsIn K mainGlobals "sorted" = some none) (z6 : PySem.W.nsIn K mainGlobals "sum" = some none) (z7 : PySem.W.nsIn K mainGlobals "tuple" = some none)
    : ∃ fd : FuncData, (∀ (s : Shared) (v : Value), BindsTo s fd ⟨[v], []⟩ [("_law_script", v)]) ∧ ∀ base : Heap, K.In base → base.Ns mainGlobals mg → Pv.FnG l.prog w K mg base 5 fa fd ["_law_script"] (Pv.spF K tbl G.sig 5 13) := by
  have e := hfa.symm.trans (PySem.W.mg_of X Gn a13)
  cases e
  have F0 := fun_mk (st := topS 1) l0 c0 k0
  have F1 := fun_mk (st := topS 2) l1 c1 k1
  have F2 := fun_mk (st := topS 4) l2 c2 k2
  have F3 := fun_mk (st := topS 5) l3 c3 k3
  have F4 := fun_mk (st := topS 6) l4 c4 k4
  have F5 := fun_mk (st := topS 7) l5 c5 k5
  have F6 := fun_mk (st := topS 8) l6 c6 k6
  have F7 := fun_mk (st := topS 9) l7 c7 k7
  have F8 := fun_mk (st := topS 10) l8 c8 k8
  have F9 := fun_mk (st := topS 11) l9 c9 k9
  have F10 := fun_mk (st := topS 12) l10 c10 k10
  have F11 := fun_mk (st := topS 13) l11 c11 k11
  have F12 := fun_mk (st := topS 14) l12 c12 k12
  have F13 := fun_mk (st := topS 15) l13 c13 k13
  have D0 : Pv.DfF K mg G 0 (dfs.getD 0 ⟨"", .Pass ⟨0, 0, 0, 0⟩, [], [], []⟩) _ _ := ⟨F0, PySem.W.mg_of X Gn a0, F0.binds (ps := ["one", "other"]) fun _ _ _ _ _ _ us hl => match us, hl with | [_, _], _ => rfl, by intro ks a perm hm; simp [G] at hm⟩
  have D1 : Pv.DfF K mg G 1 (dfs.getD 1 ⟨"", .Pass ⟨0, 0, 0, 0⟩, [], [], []⟩) _ _ := ⟨F1, PySem.W.mg_of X Gn a1, F1.binds (ps := ["pattern", "order"]) fun _ _ _ _ _ _ us hl => match us, hl with | [_, _], _ => rfl, by
    intro ks a perm hm
    simp [G] at hm
    rcases hm with ⟨rfl, rfl, rfl⟩
    · exact fun s us ws _ h1 h2 => match us, ws, h1, h2 with | [], [_, _], _, _ => .of_eq rfl⟩
  have D2 : Pv.DfF K mg G 2 (dfs.getD 2 ⟨"", .Pass ⟨0, 0, 0, 0⟩, [], [], []⟩) _ _ := ⟨F2, PySem.W.mg_of X Gn a2, F2.binds (ps := ["_law_script"]) fun _ _ _ _ _ _ us hl => match us, hl with | [_], _ => rfl, by intro ks a perm hm; simp [G] at hm⟩
  have D3 : Pv.DfF K mg G 3 (dfs.getD 3 ⟨"", .Pass ⟨0, 0, 0, 0⟩, [], [], []⟩) _ _ := ⟨F3, PySem.W.mg_of X Gn a3, F3.binds (ps := ["_law_deck_here", "_law_lots"]) fun _ _ _ _ _ _ us hl => match us, hl with | [_, _], _ => rfl, by intro ks a perm hm; simp [G] at hm⟩
  have D4 : Pv.DfF K mg G 4 (dfs.getD 4 ⟨"", .Pass ⟨0, 0, 0, 0⟩, [], [], []⟩) _ _ := ⟨F4, PySem.W.mg_of X Gn a4, F4.binds (ps := ["_law_deck_here", "_law_some_here"]) fun _ _ _ _ _ _ us hl => match us, hl with | [_, _], _ => rfl, by intro ks a perm hm; simp [G] at hm⟩
  have D5 : Pv.DfF K mg G 5 (dfs.getD 5 ⟨"", .Pass ⟨0, 0, 0, 0⟩, [], [], []⟩) _ _ := ⟨F5, PySem.W.mg_of X Gn a5, F5.binds (ps := ["_law_deck_here", "_law_lots"]) fun _ _ _ _ _ _ us hl => match us, hl with | [_, _], _ => rfl, by intro ks a perm hm; simp [G] at hm⟩
  have D6 : Pv.DfF K mg G 6 (dfs.getD 6 ⟨"", .Pass ⟨0, 0, 0, 0⟩, [], [], []⟩) _ _ := ⟨F6, PySem.W.mg_of X Gn a6, F6.binds (ps := ["_law_deck_here", "_law_some_here"]) fun _ _ _ _ _ _ us hl => match us, hl with | [_, _], _ => rfl, by intro ks a perm hm; simp [G] at hm⟩
  have D7 : Pv.DfF K mg G 7 (dfs.getD 7 ⟨"", .Pass ⟨0, 0, 0, 0⟩, [], [], []⟩) _ _ := ⟨F7, PySem.W.mg_of X Gn a7, F7.binds (ps := ["_law_deck_here", "_law_called_here", "_law_lots"]) fun _ _ _ _ _ _ us hl => match us, hl with | [_, _, _], _ => rfl, by intro ks a perm hm; simp [G] at hm⟩
  have D8 : Pv.DfF K mg G 8 (dfs.getD 8 ⟨"", .Pass ⟨0, 0, 0, 0⟩, [], [], []⟩) _ _ := ⟨F8, PySem.W.mg_of X Gn a8, F8.binds (ps := ["_law_deck_here", "_law_extra"]) fun _ _ _ _ _ _ us hl => match us, hl with | [_, _], _ => rfl, by intro ks a perm hm; simp [G] at hm⟩
  have D9 : Pv.DfF K mg G 9 (dfs.getD 9 ⟨"", .Pass ⟨0, 0, 0, 0⟩, [], [], []⟩) _ _ := ⟨F9, PySem.W.mg_of X Gn a9, F9.binds (ps := ["_law_sets", "_law_left"]) fun _ _ _ _ _ _ us hl => match us, hl with | [_, _], _ => rfl, by intro ks a perm hm; simp [G] at hm⟩
  have D10 : Pv.DfF K mg G 10 (dfs.getD 10 ⟨"", .Pass ⟨0, 0, 0, 0⟩, [], [], []⟩) _ _ := ⟨F10, PySem.W.mg_of X Gn a10, F10.binds (ps := ["_law_deck_here", "_law_sets"]) fun _ _ _ _ _ _ us hl => match us, hl with | [_, _], _ => rfl, by intro ks a perm hm; simp [G] at hm⟩
  have D11 : Pv.DfF K mg G 11 (dfs.getD 11 ⟨"", .Pass ⟨0, 0, 0, 0⟩, [], [], []⟩) _ _ := ⟨F11, PySem.W.mg_of X Gn a11, F11.binds (ps := ["_law_sets", "_law_sign"]) fun _ _ _ _ _ _ us hl => match us, hl with | [_, _], _ => rfl, by intro ks a perm hm; simp [G] at hm⟩
  have D12 : Pv.DfF K mg G 12 (dfs.getD 12 ⟨"", .Pass ⟨0, 0, 0, 0⟩, [], [], []⟩) _ _ := ⟨F12, PySem.W.mg_of X Gn a12, F12.binds (ps := ["_law_sets", "_law_one", "_law_called_here"]) fun _ _ _ _ _ _ us hl => match us, hl with | [_, _, _], _ => rfl, by intro ks a perm hm; simp [G] at hm⟩
  have D13 : Pv.DfF K mg G 13 (dfs.getD 13 ⟨"", .Pass ⟨0, 0, 0, 0⟩, [], [], []⟩) _ _ := ⟨F13, PySem.W.mg_of X Gn a13, F13.binds (ps := ["_law_script"]) fun _ _ _ _ _ _ us hl => match us, hl with | [_], _ => rfl, by intro ks a perm hm; simp [G] at hm⟩
  refine ⟨PySem.W.fnOf "law" "law" (defArgs (topS 15)) (defBody (topS 15)) (defScope (topS 15)) .none kV13 dc13 pm13 an13 cd13 ct13, fun s v => .of_eq rfl, fun base _ _ => Pv.table (dfs := dfs) rfl ck ?_ ?_ 5 13 _ _ _ rfl D13⟩
  · exact Pv.allFrom_get (P := fun f df => ∃ fa fd, Pv.DfF K mg G f df fa fd) ⟨⟨_, _, D0⟩, ⟨_, _, D1⟩, ⟨_, _, D2⟩, ⟨_, _, D3⟩, ⟨_, _, D4⟩, ⟨_, _, D5⟩, ⟨_, _, D6⟩, ⟨_, _, D7⟩, ⟨_, _, D8⟩, ⟨_, _, D9⟩, ⟨_, _, D10⟩, ⟨_, _, D11⟩, ⟨_, _, D12⟩, ⟨_, _, D13⟩, trivial⟩
  · intro x hx
    simp [G] at hx
    rcases hx with rfl | rfl | rfl | rfl | rfl | rfl | rfl | rfl
    · exact PySem.W.mg_none_of X Gn z0
    · exact PySem.W.mg_none_of X Gn z1
    · exact PySem.W.mg_none_of X Gn z2
    · exact PySem.W.mg_none_of X Gn z3
    · exact PySem.W.mg_none_of X Gn z4
    · exact PySem.W.mg_none_of X Gn z5
    · exact PySem.W.mg_none_of X Gn z6
    · exact PySem.W.mg_none_of X Gn z7
end K10
open PySem PySem.W PyProof.Rows
set_option maxHeartbeats 0 in
theorem PySem.Challenge.cw_sawpast_k10_cuts_holds : PySem.Challenge.rw_sawpast_k10_cuts.Holds := by
  w_on; o_law; k_head; (case hw => w_witness2)
  k_fill
  refine Pv.end_of (l := PySem.Challenge.rw_sawpast_k10_cuts) (n := 63) (k := 5) (x := "_law_script") (sp := fun K => Pv.spF K K10.tbl K10.G.sig 5 13) rfl (by decide) rfl ⟨rfl, by decide, by decide⟩ (fun w h Y => PySem.W.kIn_of Y) ?F (fun K H a ns hl hS _ => Pv.law_sp rfl K10.plain hl hS)
  case F =>
    intro w mg fa h KX Gn hmg
    refine' K10.all_mk KX Gn hmg ?a0 ?l0 ?c0 ?k0 ?a1 ?l1 ?c1 ?k1 ?a2 ?l2 ?c2 ?k2 ?a3 ?l3 ?c3 ?k3 ?a4 ?l4 ?c4 ?k4 ?a5 ?l5 ?c5 ?k5 ?a6 ?l6 ?c6 ?k6 ?a7 ?l7 ?c7 ?k7 ?a8 ?l8 ?c8 ?k8 ?a9 ?l9 ?c9 ?k9 ?a10 ?l10 ?c10 ?k10 ?a11 ?l11 ?c11 ?k11 ?a12 ?l12 ?c12 ?k12 ?a13 ?l13 ?c13 ?k13 ?z0 ?z1 ?z2 ?z3 ?z4 ?z5 ?z6 ?z7
    (case a0 => k_is); (case l0 => k_is); (case c0 => k_is); (case k0 => k_is)
    (case a1 => k_is); (case l1 => k_is); (case c1 => k_is); (case k1 => k_is)
    (case a2 => k_is); (case l2 => k_is); (case c2 => k_is); (case k2 => k_is)
    (case a3 => k_is); (case l3 => k_is); (case c3 => k_is); (case k3 => k_is)
    (case a4 => k_is); (case l4 => k_is); (case c4 => k_is); (case k4 => k_is)
    (case a5 => k_is); (case l5 => k_is); (case c5 => k_is); (case k5 => k_is)
    (case a6 => k_is); (case l6 => k_is); (case c6 => k_is); (case k6 => k_is)
    (case a7 => k_is); (case l7 => k_is); (case c7 => k_is); (case k7 => k_is)
    (case a8 => k_is); (case l8 => k_is); (case c8 => k_is); (case k8 => k_is)
    (case a9 => k_is); (case l9 => k_is); (case c9 => k_is); (case k9 => k_is)
    (case a10 => k_is); (case l10 => k_is); (case c10 => k_is); (case k10 => k_is)
    (case a11 => k_is); (case l11 => k_is); (case c11 => k_is); (case k11 => k_is)
    (case a12 => k_is); (case l12 => k_is); (case c12 => k_is); (case k12 => k_is)
    (case a13 => k_is); (case l13 => k_is); (case c13 => k_is); (case k13 => k_is)
    (case z0 => k_is)
    (case z1 => k_is)
    (case z2 => k_is)
    (case z3 => k_is)
    (case z4 => k_is)
    (case z5 => k_is)
    (case z6 => k_is)
    (case z7 => k_is)
end
