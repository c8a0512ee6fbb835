import PyProof.Rows.All
import HandS.ForMost
import HandS.Wide
import KE.LtData
import KE.SortData
import KE.SortLaws
import HandS.HotCalls
import HandS.Lambda
import HandS.Zip
import HandS.Conv
import HandS.Style
import HandS.Flow
import HandS.TupMul
import HandS.TupAny
import HandS.TupLe
import KE.DataCmp
import HandS.IsInst
import HandS.SortInts
import HandS.Comp
import HandS.TryOnly
import HandS.Iter
import HandS.ExcCtx
import HandS.ExcOwn
import HandS.Words
import HandS.Hot
import HandS.ExcIs
import HandS.Text
import HandS.SetFor
import HandS.SetBool
import HandS.TupSets
import HandS.HeadWalk
import HandS.HeadHook4
import KE.KeyNested
import PyProof.ExcBaseAll.ValueError
import PyProof.TableCode
import Wide.All
import OpenK.AllK
import Wide.FinOn
import KE.KStateDown
import Lean
import HandS.Base
import HandS.Call
import HandS.Ends
import HandS.More
import HandS.WordsExc
import HandS.Defaults
import HandS.Head0
import HandS.Head1
import HandS.Head2
import HandS.HeadEnd
import HandS.HeadHook1
import HandS.HeadHook2
import PySem.Challenge.RW_oddcuts_k01_points_and_triangles
set_option Elab.async false
set_option linter.all false
set_option maxRecDepth 100000
/-! Iv0: a small evaluator over plain data for the Python that this program and its laws use. -/
namespace Iv
open PySem
inductive D where
  | non | bl (b : Bool) | int (i : Int) | str (x : Str) | tup (xs : List D) | lst (xs : List D) | obj (n : Nat) | fn (n : Nat) | clo (n : Nat) (caps : List D)
/-- what stands in the store: a list that calls may change, an instance -/
inductive Ob where
  | lst (xs : List D) | ins (c : Nat) (fs : List D)
abbrev Store := List Ob
/-- a slot of a frame: nothing, a value, a list that this frame alone holds -/
inductive Sl where
  | none | val (d : D) | own (xs : List D)
abbrev Env := List Sl
/-- an end: a value and the store, an exception of a class, stuck -/
inductive Rs (α : Type) where
  | ok (a : α) (S : Store) | exc (c : Nat) (S : Store) | bad
@[inline] def Rs.bind {α β : Type} (r : Rs α) (f : α → Store → Rs β) : Rs β := match r with
  | .ok a S => f a S
  | .exc c S => .exc c S
  | .bad => .bad
def Rs.of {α : Type} (o : Option α) (S : Store) : Rs α := match o with
  | some a => .ok a S
  | none => .bad
mutual
def toPy : D → Option PyData
  | .non => some .none
  | .bl b => some (.bool b)
  | .int i => some (.int i)
  | .str x => some (.str x)
  | .tup xs => match toPys xs with | some ys => some (.tuple ys) | none => none
  | .lst xs => match toPys xs with | some ys => some (.list ys) | none => none
  | .obj _ => none
  | .fn _ => none
  | .clo _ _ => none
def toPys : List D → Option (List PyData)
  | [] => some []
  | x :: xs => match toPy x with
    | some a => match toPys xs with
      | some b => some (a :: b)
      | none => none
    | none => none
end
mutual
/-- no lambda in it -/
def noClo : D → Bool
  | .tup xs => noClos xs
  | .lst xs => noClos xs
  | .clo _ _ => false
  | _ => true
def noClos : List D → Bool
  | [] => true
  | x :: xs => noClo x && noClos xs
end
/-- what can be called -/
def isFn : D → Bool
  | .fn _ => true
  | .clo _ _ => true
  | _ => false
inductive BOp where | add | sub | mul | fdiv | mod | pow
inductive COp where | eq | ne | lt | le | gt | ge | is | isNot | in_ | notIn
inductive Ty where | int | bool | tuple | str | list
inductive Bi where | len | abs | int | str | bool | all | any | list | tuple | sum | max2 | min2 | sorted | sortedSet | lenSet | minL | sortedSetT
  deriving DecidableEq
def big : Nat := 16777216
def mulOk (i j : Int) : Bool := decide (i.natAbs.log2 + j.natAbs.log2 < 100000000)
def repL (xs : List D) (k : Int) : List D := (List.replicate k.toNat xs).flatten
/-- a bool as an int -/
def b2 (b : Bool) : Int := if b then 1 else 0
def binO : BOp → D → D → Option D
  | .add, .int i, .int j => some (.int (i + j))
  | .add, .bl b, .int j => some (.int (b2 b + j))
  | .sub, .bl b, .int j => some (.int (b2 b - j))
  | .mul, .int i, .bl b => some (.int (i * b2 b))
  | .add, .str x, .str y => if x.length + y.length ≤ big then some (.str (x ++ y)) else none
  | .add, .tup xs, .tup ys => if xs.length + ys.length ≤ big then some (.tup (xs ++ ys)) else none
  | .add, .lst xs, .lst ys => if xs.length + ys.length ≤ big then some (.lst (xs ++ ys)) else none
  | .sub, .int i, .int j => some (.int (i - j))
  | .mul, .int i, .int j => if mulOk i j then some (.int (i * j)) else none
  | .mul, .tup xs, .int k => if !xs.isEmpty && decide (2 ≤ k) && decide (k ≤ 1000) && decide (xs.length ≤ 1000) then some (.tup (repL xs k)) else none
  | .mul, .lst xs, .int k => if decide (1 ≤ k) && decide (k ≤ 1000) && decide (xs.length ≤ 1000) then some (.lst (repL xs k)) else none
  | .fdiv, .int i, .int j => if decide (j ≠ 0) && decide (j.natAbs.log2 < 9000) then some (.int (i.fdiv j)) else none
  | .mod, .int i, .int j => if j = 0 then none else some (.int (i.fmod j))
  | .pow, .int i, .int j => if decide (0 ≤ j) && decide (j ≤ 1000000) && decide (i.natAbs < 2 ^ 64) then some (.int (i ^ j.toNat)) else none
  | _, _, _ => none
def eqO (d e : D) : Option Bool := match toPy d with
  | some a => match toPy e with
    | some b => if SeqAt.shaped a && SeqAt.shaped b then some (PyData.eqv a b) else none
    | none => none
  | none => none
def ltO (d e : D) : Option Bool := match d, e with
  | .int i, .int j => some (decide (i < j))
  | .tup _, .tup _ => match toPy d with
    | some a => match toPy e with
      | some b => if PySem.W.alike a b && SeqAt.shaped a then some (PySem.W.dataLt a b) else none
      | none => none
    | none => none
  | _, _ => none
def anyEq (d : D) : List D → Option Bool
  | [] => some false
  | x :: xs => match eqO x d with
    | some true => some true
    | some false => anyEq d xs
    | none => none
def inO (d : D) : D → Option Bool
  | .tup xs => anyEq d xs
  | .lst xs => anyEq d xs
  | _ => none
def isO : D → D → Option Bool
  | .non, .non => some true
  | .bl _, .non => some false
  | .int _, .non => some false
  | .str _, .non => some false
  | .tup _, .non => some false
  | .lst _, .non => some false
  | .bl a, .bl b => some (decide (a = b))
  | _, _ => none
def cmpO : COp → D → D → Option Bool
  | .eq, d, e => eqO d e
  | .ne, d, e => (eqO d e).map (!·)
  | .lt, d, e => ltO d e
  | .gt, .int i, .int j => some (decide (j < i))
  | .le, .int i, .int j => some (decide (i ≤ j))
  | .ge, .int i, .int j => some (decide (j ≤ i))
  | .is, d, e => isO d e
  | .isNot, d, e => (isO d e).map (!·)
  | .in_, d, e => inO d e
  | .notIn, d, e => (inO d e).map (!·)
  | _, _, _ => none
def truth : D → Option Bool
  | .non => some false
  | .bl b => some b
  | .int i => some (i != 0)
  | .tup xs => some (!xs.isEmpty)
  | .lst xs => some (!xs.isEmpty)
  | _ => none
def isa : Ty → D → Option Bool
  | .int, .int _ => some true
  | .int, .bl _ => some true
  | .bool, .bl _ => some true
  | .tuple, .tup _ => some true
  | .list, .lst _ => some true
  | .str, .str _ => some true
  | _, .obj _ => none
  | _, .fn _ => none
  | _, .clo _ _ => none
  | _, _ => some false
/-- a place counted from the front or from behind -/
abbrev ixD {α : Type} (xs : List α) (i : Int) : Option α := L2.atI xs i
def subO : D → D → Option D
  | .tup xs, .int i => ixD xs i
  | .lst xs, .int i => ixD xs i
  | _, _ => none
def cut {α : Type} (xs : List α) (lo hi : Option Int) : List α :=
  (xs.drop (HT.sIx xs.length 0 lo)).take (HT.sIx xs.length xs.length hi - HT.sIx xs.length 0 lo)
def sliceO : D → Option Int → Option Int → Option D
  | .tup xs, lo, hi => some (.tup (cut xs lo hi))
  | .lst xs, lo, hi => some (.lst (cut xs lo hi))
  | _, _, _ => none
def revO : D → Option D
  | .tup xs => some (.tup xs.reverse)
  | .lst xs => some (.lst xs.reverse)
  | _ => none
def boolL : List D → Option (List Bool)
  | [] => some []
  | .bl b :: xs => (boolL xs).map (b :: ·)
  | _ :: _ => none
def intL : List D → Option (List Int)
  | [] => some []
  | .int b :: xs => (intL xs).map (b :: ·)
  | _ :: _ => none
/-- a stable sort, by insertion -/
def insBy {α : Type} (le : α → α → Bool) (x : α) : List α → List α
  | [] => [x]
  | y :: ys => if le x y then x :: y :: ys else y :: insBy le x ys
def sortBy {α : Type} (le : α → α → Bool) : List α → List α
  | [] => []
  | x :: xs => insBy le x (sortBy le xs)
/-- what can be sorted: alike one to another, no None, no empty tuple -/
def sortable1 : PyData → Bool
  | .none => false
  | .tuple [] => false
  | _ => true
def sorts (ps : List PyData) : Bool := ps.all (fun a => ps.all fun b => PySem.W.alike a b) && ps.all fun a => SeqAt.shaped a && sortable1 a
def pyD (d : D) : PyData := match toPy d with
  | some a => a
  | none => .none
def leD (d e : D) : Bool := !PySem.W.dataLt (pyD e) (pyD d)
def sortO (xs : List D) : Option (List D) := match toPys xs with
  | some ps => if sorts ps && decide (xs.length ≤ big) then some (sortBy leD xs) else none
  | none => none
def eqD (d e : D) : Bool := match toPy d, toPy e with
  | some a, some b => PyData.eqv a b
  | _, _ => false
/-- each once, the first ones -/
def once : List D → List D → List D
  | acc, [] => acc.reverse
  | acc, x :: xs => if acc.any (fun y => eqD y x) then once acc xs else once (x :: acc) xs
/-- put in its place, unless it is there -/
def insU (x : Int) : List Int → List Int
  | [] => [x]
  | y :: ys => if x < y then x :: y :: ys else if x = y then y :: ys else y :: insU x ys
/-- ascending, each once -/
def usort : List Int → List Int
  | [] => []
  | x :: xs => insU x (usort xs)
def usB (bs : List Bool) : List Bool := [false, true].filter fun b => bs.contains b
def sortedSetO (xs : List D) : Option D := match intL xs with
  | some is => if decide ((usort is).length < 64) && decide (is.length ≤ 1000) then some (.lst ((usort is).map .int)) else none
  | none => match boolL xs with
    | some bs => if decide (bs.length ≤ 1000) then some (.lst ((usB bs).map .bl)) else none
    | none => none
/-! points as four ints, their order -/
abbrev P4 := (Int × Int) × (Int × Int)
def LtP (p q : P4) : Prop := p.1.1 < q.1.1 ∨ (p.1.1 = q.1.1 ∧ (p.1.2 < q.1.2 ∨ (p.1.2 = q.1.2 ∧ (p.2.1 < q.2.1 ∨ (p.2.1 = q.2.1 ∧ p.2.2 < q.2.2)))))
instance (p q : P4) : Decidable (LtP p q) := by unfold LtP; infer_instance
/-- put in its place, unless it is there -/
def insP (x : P4) : List P4 → List P4
  | [] => [x]
  | y :: ys => if LtP x y then x :: y :: ys else if x = y then y :: ys else y :: insP x ys
/-- ascending, each once -/
def psort : List P4 → List P4
  | [] => []
  | x :: xs => insP x (psort xs)
def encP4 (p : P4) : D := .tup [.tup [.int p.1.1, .int p.1.2], .tup [.int p.2.1, .int p.2.2]]
def ptO : D → Option P4
  | .tup [.tup [.int a, .int b], .tup [.int c, .int d]] => some ((a, b), (c, d))
  | _ => none
def ptsO : List D → Option (List P4)
  | [] => some []
  | x :: xs => match ptO x, ptsO xs with
    | some p, some ps => some (p :: ps)
    | _, _ => none
/-- the least of some -/
def leastI (i : Int) : List Int → Int
  | [] => i
  | j :: js => leastI (if j < i then j else i) js
def seqOf : D → Option (List D)
  | .tup xs => some xs
  | .lst xs => some xs
  | _ => none
def biO : Bi → List D → Option D
  | .len, [.tup xs] => some (.int xs.length)
  | .len, [.lst xs] => some (.int xs.length)
  | .abs, [.int i] => some (.int (if i < 0 then -i else i))
  | .int, [.int i] => some (.int i)
  | .str, [.bl b] => some (.str (if b then "True" else "False"))
  | .str, [.int i] => if i.natAbs.log2 < 1920 then some (.str (toString i)) else none
  | .bool, [.bl b] => some (.bl b)
  | .all, [.lst xs] => (boolL xs).map fun bs => .bl (bs.all id)
  | .any, [.lst xs] => (boolL xs).map fun bs => .bl (bs.any id)
  | .list, [.tup xs] => some (.lst xs)
  | .list, [.lst xs] => some (.lst xs)
  | .tuple, [.tup xs] => some (.tup xs)
  | .tuple, [.lst xs] => some (.tup xs)
  | .sum, [.lst xs] => (intL xs).map fun is => .int is.sum
  | .max2, [.int i, .int j] => some (.int (if j > i then j else i))
  | .min2, [.int i, .int j] => some (.int (if j < i then j else i))
  | .minL, [.lst xs] => match intL xs with
    | some (i :: is) => some (.int (leastI i is))
    | _ => none
  | .sorted, [.lst xs] => (sortO xs).map .lst
  | .sortedSet, [.lst xs] => sortedSetO xs
  | .sortedSetT, [.tup xs] => match ptsO xs with
    | some ps => if decide (ps.length ≤ 4) then some (.lst ((psort ps).map encP4)) else none
    | none => none
  | _, _ => none
/-- a target -/
inductive Pt where
  | nm (i : Nat) | p2 (a b : Pt) | p3 (a b c : Pt) | p4 (a b c d : Pt)
def Pt.put : Pt → D → Env → Option Env
  | .nm i, d, ρ => some (ρ.set i (.val d))
  | .p2 a b, .tup [x, y], ρ => match a.put x ρ with | some ρ1 => b.put y ρ1 | none => none
  | .p2 a b, .lst [x, y], ρ => match a.put x ρ with | some ρ1 => b.put y ρ1 | none => none
  | .p3 a b c, .tup [x, y, z], ρ => match a.put x ρ with
    | some ρ1 => match b.put y ρ1 with | some ρ2 => c.put z ρ2 | none => none
    | none => none
  | .p4 a b c d, .tup [x, y, z, w], ρ => match a.put x ρ with
    | some ρ1 => match b.put y ρ1 with
      | some ρ2 => match c.put z ρ2 with | some ρ3 => d.put w ρ3 | none => none
      | none => none
    | none => none
  | _, _, _ => none
def Pt.vars : Pt → List Nat
  | .nm i => [i]
  | .p2 a b => a.vars ++ b.vars
  | .p3 a b c => a.vars ++ b.vars ++ c.vars
  | .p4 a b c d => a.vars ++ b.vars ++ c.vars ++ d.vars
mutual
inductive Ex where
  | lit (d : D) | var (i : Nat) | view (i : Nat)
  | tup (es : Exs) | lst (es : Exs)
  | bin (op : BOp) (a b : Ex) | neg (a : Ex) | not (a : Ex) | and (a b : Ex) | or (a b : Ex)
  | cmp (op : COp) (a b : Ex) | chain (o1 o2 : COp) (a b c : Ex) | chain3 (o1 o2 o3 : COp) (a b c d : Ex)
  | ite (c a b : Ex)
  | sub (a i : Ex) | slice (a : Ex) (lo hi : Oex) | rev (a : Ex)
  | isa (t : Ty) (a : Ex)
  | bi (f : Bi) (es : Exs)
  | lrange (a b c : Ex)
  | comp (it : Itx) (p : Pt) (own : List Nat) (c : Oex) (e : Ex)
  | comp2 (it : Itx) (p : Pt) (it2 : Itx) (p2 : Pt) (own : List Nat) (c : Oex) (e : Ex)
  | call (f : Nat) (es : Exs) | callE (f : Nat) (es : Exs) | callv (i : Nat) (es : Exs)
  | lam (f : Nat)
  | callc (f id : Nat) (caps : List Nat) (es : Exs)
inductive Exs where
  | nil | cons (e : Ex) (es : Exs)
inductive Oex where
  | none | some (e : Ex)
inductive Itx where
  | over (e : Ex) | range1 (a : Ex) | range2 (a b : Ex) | range3 (a b c : Ex) | zip (a b : Ex) | enum (a : Ex)
end
mutual
inductive Sx where
  | asg (p : Pt) (e : Ex)
  | par2 (i j : Nat) (a b : Ex) | par3 (i j k : Nat) (a b c : Ex)
  | asg2 (p q : Pt) (e : Ex)
  | own (i : Nat) (es : Exs) | ownp (i j : Nat) (es : Exs) (b : Ex) | ownq (i j : Nat) (a : Ex) (es : Exs)
  | app (i : Nat) (e : Ex)
  | rem (i : Nat) (e : Ex)
  | setix (a k v : Ex)
  | expr (e : Ex)
  | ite (c : Ex) (a b : Sxs)
  | for_ (p : Pt) (it : Itx) (b : Sxs)
  | while_ (c : Ex) (b : Sxs)
  | ret (e : Ex) | retOwn (i : Nat) | retNew (es : Exs)
  | raise (c : Nat)
  | frz (i : Nat)
  | tryE (told : Bool) (s : Sx)
inductive Sxs where
  | nil | cons (s : Sx) (ss : Sxs)
end
/-- a lambda: its slots, its parameters, how many names it captures (behind the parameters), its body -/
structure LamI where
  slots : Nat
  pars : Nat
  caps : Nat
  body : Ex
/-- a def: how many slots its frame has, how many are parameters, its body -/
structure FnI where
  slots : Nat
  pars : Nat
  body : Sxs
def slotD (ρ : Env) (i : Nat) : Option D := match ρ[i]? with
  | some (.val d) => some d
  | _ => none
def slotO (ρ : Env) (i : Nat) : Option (List D) := match ρ[i]? with
  | some (.own xs) => some xs
  | _ => none
/-- what a lambda captures -/
def capsOf (ρ : Env) : List Nat → Option (List D)
  | [] => some []
  | i :: is => match slotD ρ i with
    | some d => match capsOf ρ is with
      | some ds => some (d :: ds)
      | none => none
    | none => none
def wipes : Env → List Nat → Env
  | ρ, [] => ρ
  | ρ, i :: is => (wipes ρ is).set i .none
/-- range(a, b): the intL, if the ends are within reach -/
def rng (a b : Int) : Option (List D) :=
  if decide (-(2 ^ 62) ≤ a) && decide (a < 2 ^ 62) && decide (-(2 ^ 62) ≤ b) && decide (b < 2 ^ 62) then
    some ((List.range (b - a).toNat).map fun (k : Nat) => D.int (a + k)) else none
/-- range(a, b, -1) -/
def rngDn (a b : Int) : Option (List D) :=
  if decide (-(2 ^ 62) ≤ a) && decide (a < 2 ^ 62) && decide (-(2 ^ 62) ≤ b) && decide (b < 2 ^ 62) then
    some ((List.range (a - b).toNat).map fun (k : Nat) => D.int (a - k)) else none
def zips : List D → List D → List D
  | x :: xs, y :: ys => .tup [x, y] :: zips xs ys
  | _, _ => []
def enums : Nat → List D → List D
  | _, [] => []
  | n, x :: xs => .tup [.int n, x] :: enums (n + 1) xs
/-- what of the store a list stands for -/
def deref (S : Store) : D → D
  | .obj n => match S[n]? with
    | some (.lst xs) => .lst xs
    | _ => .obj n
  | d => d
def compLoop (p : Pt) (ρ : Env) (f : Env → Store → Rs (Option D)) : List D → Store → Rs (List D)
  | [], S => .ok [] S
  | x :: xs, S => match p.put x ρ with
    | none => .bad
    | some ρ1 => match f ρ1 S with
      | .ok (some d) S1 => match compLoop p ρ f xs S1 with
        | .ok ds S2 => .ok (d :: ds) S2
        | _ => .bad
      | .ok none S1 => compLoop p ρ f xs S1
      | _ => .bad
def compLoop2 (p : Pt) (ρ : Env) (f : Env → Store → Rs (List D)) : List D → Store → Rs (List D)
  | [], S => .ok [] S
  | x :: xs, S => match p.put x ρ with
    | none => .bad
    | some ρ1 => match f ρ1 S with
      | .ok d S1 => match compLoop2 p ρ f xs S1 with
        | .ok ds S2 => .ok (d ++ ds) S2
        | _ => .bad
      | _ => .bad
/-- one turn of a comprehension: the test, the item -/
def elemB (fc : Env → Store → Rs Bool) (fe : Env → Store → Rs D) (ρ : Env) (S : Store) : Rs (Option D) := match fc ρ S with
  | .ok true S1 => match fe ρ S1 with | .ok d S2 => .ok (some d) S2 | _ => .bad
  | .ok false S1 => .ok none S1
  | _ => .bad
/-- one turn of a double comprehension -/
def elem2 (fi : Env → Store → Rs (List D)) (p2 : Pt) (f : Env → Store → Rs (Option D)) (ρ : Env) (S : Store) : Rs (List D) := match fi ρ S with
  | .ok ys S1 => compLoop p2 (wipes ρ p2.vars) f ys S1
  | _ => .bad
/-- the words for an error's classes, as the law tells them -/
abbrev Names := Nat → Str
section
variable (C : D → List D → Store → Rs D) (nm : Names)
mutual
def evE : Ex → Env → Store → Rs D
  | .lit d, _, S => .ok d S
  | .var i, ρ, S => Rs.of (slotD ρ i) S
  | .view i, ρ, S => match slotO ρ i with | some xs => .ok (.lst xs) S | none => .bad
  | .tup es, ρ, S => (evEs es ρ S).bind fun ds S1 => if ds.length ≤ big then .ok (.tup ds) S1 else .bad
  | .lst es, ρ, S => (evEs es ρ S).bind fun ds S1 => if ds.length ≤ big then .ok (.lst ds) S1 else .bad
  | .bin op a b, ρ, S => (evE a ρ S).bind fun x S1 => (evE b ρ S1).bind fun y S2 => Rs.of (binO op x y) S2
  | .neg a, ρ, S => (evE a ρ S).bind fun x S1 => match x with | .int i => .ok (.int (-i)) S1 | _ => .bad
  | .not a, ρ, S => (evE a ρ S).bind fun x S1 => match truth x with | some b => .ok (.bl (!b)) S1 | none => .bad
  | .and a b, ρ, S => (evE a ρ S).bind fun x S1 => match truth x with
    | some true => evE b ρ S1
    | some false => .ok x S1
    | none => .bad
  | .or a b, ρ, S => (evE a ρ S).bind fun x S1 => match truth x with
    | some true => .ok x S1
    | some false => evE b ρ S1
    | none => .bad
  | .cmp op a b, ρ, S => (evE a ρ S).bind fun x S1 => (evE b ρ S1).bind fun y S2 => match cmpO op x y with | some k => .ok (.bl k) S2 | none => .bad
  | .chain o1 o2 a b c, ρ, S => (evE a ρ S).bind fun x S1 => (evE b ρ S1).bind fun y S2 => match cmpO o1 x y with
    | some true => (evE c ρ S2).bind fun z S3 => match cmpO o2 y z with | some k => .ok (.bl k) S3 | none => .bad
    | some false => .ok (.bl false) S2
    | none => .bad
  | .chain3 o1 o2 o3 a b c d, ρ, S => (evE a ρ S).bind fun x S1 => (evE b ρ S1).bind fun y S2 => match cmpO o1 x y with
    | some true => (evE c ρ S2).bind fun z S3 => match cmpO o2 y z with
      | some true => (evE d ρ S3).bind fun w S4 => match cmpO o3 z w with | some k => .ok (.bl k) S4 | none => .bad
      | some false => .ok (.bl false) S3
      | none => .bad
    | some false => .ok (.bl false) S2
    | none => .bad
  | .ite c a b, ρ, S => (evE c ρ S).bind fun x S1 => match truth x with
    | some true => evE a ρ S1
    | some false => evE b ρ S1
    | none => .bad
  | .sub a i, ρ, S => (evE a ρ S).bind fun x S1 => (evE i ρ S1).bind fun y S2 => Rs.of (subO (deref S2 x) y) S2
  | .slice a lo hi, ρ, S => (evE a ρ S).bind fun x S1 => (evO lo ρ S1).bind fun l S2 => (evO hi ρ S2).bind fun h S3 => Rs.of (sliceO x l h) S3
  | .rev a, ρ, S => (evE a ρ S).bind fun x S1 => Rs.of (revO x) S1
  | .isa t a, ρ, S => (evE a ρ S).bind fun x S1 => match isa t x with | some k => .ok (.bl k) S1 | none => .bad
  | .bi f es, ρ, S => (evEs es ρ S).bind fun ds S1 => Rs.of (biO f ds) S1
  | .lrange a b c, ρ, S => (evE a ρ S).bind fun x S1 => (evE b ρ S1).bind fun y S2 => (evE c ρ S2).bind fun z S3 => match x, y, z with
    | .int i, .int j, .int k => if decide (0 < k) && decide (k < 1000) && decide (-1000000 ≤ i) && decide (i < 1000000) && decide (-1000000 ≤ j) && decide (j < 1000000)
      then .ok (.lst ((List.range (if i < j then (j - i - 1) / k + 1 else 0).toNat).map fun (m : Nat) => D.int (i + m * k))) S3 else .bad
    | _, _, _ => .bad
  | .comp it p own c e, ρ, S => (evI it ρ S).bind fun xs S1 =>
    match compLoop p (wipes ρ own) (elemB (fun ρ1 S => evC c ρ1 S) (fun ρ1 S => evE e ρ1 S)) xs S1 with
    | .ok ds S2 => if ds.length ≤ big then .ok (.lst ds) S2 else .bad
    | _ => .bad
  | .comp2 it p it2 p2 own c e, ρ, S => (evI it ρ S).bind fun xs S1 =>
    match compLoop2 p (wipes ρ own) (elem2 (fun ρ1 S => evI it2 ρ1 S) p2 (elemB (fun ρ1 S => evC c ρ1 S) (fun ρ1 S => evE e ρ1 S))) xs S1 with
    | .ok ds S2 => if ds.length ≤ big then .ok (.lst ds) S2 else .bad
    | _ => .bad
  | .call f es, ρ, S => (evEs es ρ S).bind fun ds S1 => C (.fn f) ds S1
  | .callE f es, ρ, S => (evEs es ρ S).bind fun ds S1 => if noClos ds then C (.fn f) ds S1 else .bad
  | .callv i es, ρ, S => match slotD ρ i with
    | some f => if isFn f then (evEs es ρ S).bind fun ds S1 => if noClos ds then C f ds S1 else .bad else .bad
    | none => .bad
  | .lam f, _, S => .ok (.clo f []) S
  | .callc f id is es, ρ, S => match capsOf ρ is with
    | some cs => (evEs es ρ S).bind fun ds S1 => (C (.fn f) (.clo id cs :: ds) S1).bind fun d S2 => if noClo d then .ok d S2 else .bad
    | none => .bad
def evEs : Exs → Env → Store → Rs (List D)
  | .nil, _, S => .ok [] S
  | .cons e es, ρ, S => (evE e ρ S).bind fun d S1 => (evEs es ρ S1).bind fun ds S2 => .ok (d :: ds) S2
/-- an end of a slice -/
def evO : Oex → Env → Store → Rs (Option Int)
  | .none, _, S => .ok none S
  | .some e, ρ, S => (evE e ρ S).bind fun d S1 => match d with | .int i => .ok (some i) S1 | _ => .bad
/-- a test that may be left out -/
def evC : Oex → Env → Store → Rs Bool
  | .none, _, S => .ok true S
  | .some e, ρ, S => (evE e ρ S).bind fun d S1 => match truth d with | some b => .ok b S1 | none => .bad
/-- what is walked -/
def evI : Itx → Env → Store → Rs (List D)
  | .over e, ρ, S => (evE e ρ S).bind fun d S1 => Rs.of (seqOf d) S1
  | .range1 a, ρ, S => (evE a ρ S).bind fun x S1 => match x with | .int i => Rs.of (rng 0 i) S1 | _ => .bad
  | .range2 a b, ρ, S => (evE a ρ S).bind fun x S1 => (evE b ρ S1).bind fun y S2 => match x, y with | .int i, .int j => Rs.of (rng i j) S2 | _, _ => .bad
  | .range3 a b c, ρ, S => (evE a ρ S).bind fun x S1 => (evE b ρ S1).bind fun y S2 => (evE c ρ S2).bind fun z S3 => match x, y, z with
    | .int i, .int j, .int (-1) => Rs.of (rngDn i j) S3
    | _, _, _ => .bad
  | .zip a b, ρ, S => (evE a ρ S).bind fun x S1 => (evE b ρ S1).bind fun y S2 => match x, y with
    | .tup xs, .tup ys => .ok (zips xs ys) S2
    | .lst xs, .lst ys => .ok (zips xs ys) S2
    | _, _ => .bad
  | .enum a, ρ, S => (evE a ρ S).bind fun x S1 => match seqOf x with | some xs => .ok (enums 0 xs) S1 | none => .bad
end
/-- how a statement ends -/
inductive Ou where
  | next (ρ : Env) | ret (d : D)
def forLoop (p : Pt) (b : Env → Store → Rs Ou) : List D → Env → Store → Rs Ou
  | [], ρ, S => .ok (.next ρ) S
  | x :: xs, ρ, S => match p.put x ρ with
    | none => .bad
    | some ρ1 => (b ρ1 S).bind fun o S1 => match o with
      | .next ρ2 => forLoop p b xs ρ2 S1
      | .ret d => .ok (.ret d) S1
def whileLoop (c : Env → Store → Rs Bool) (b : Env → Store → Rs Ou) : Nat → Env → Store → Rs Ou
  | 0, _, _ => .bad
  | n + 1, ρ, S => (c ρ S).bind fun k S1 => if k then (b ρ S1).bind fun o S2 => match o with
      | .next ρ2 => whileLoop c b n ρ2 S2
      | .ret d => .ok (.ret d) S2
    else .ok (.next ρ) S1
def evT (e : Ex) (ρ : Env) (S : Store) : Rs Bool := (evE C e ρ S).bind fun d S1 => match truth d with | some b => .ok b S1 | none => .bad
/-- the first one that equals d taken out -/
def erasO (d : D) : List D → Option (List D)
  | [] => none
  | x :: xs => match eqO x d with
    | some true => some xs
    | some false => (erasO d xs).map (x :: ·)
    | none => none
variable (F : Nat)
mutual
def evS : Sx → Env → Store → Rs Ou
  | .asg p e, ρ, S => (evE C e ρ S).bind fun d S1 => match p.put d ρ with | some ρ1 => .ok (.next ρ1) S1 | none => .bad
  | .par2 i j a b, ρ, S => (evE C a ρ S).bind fun x S1 => (evE C b ρ S1).bind fun y S2 => .ok (.next ((ρ.set i (.val x)).set j (.val y))) S2
  | .par3 i j k a b c, ρ, S => (evE C a ρ S).bind fun x S1 => (evE C b ρ S1).bind fun y S2 => (evE C c ρ S2).bind fun z S3 =>
      .ok (.next (((ρ.set i (.val x)).set j (.val y)).set k (.val z))) S3
  | .asg2 p q e, ρ, S => (evE C e ρ S).bind fun d S1 => match p.put d ρ with
    | some ρ1 => match q.put d ρ1 with | some ρ2 => .ok (.next ρ2) S1 | none => .bad
    | none => .bad
  | .own i es, ρ, S => (evEs C es ρ S).bind fun ds S1 => if ds.length ≤ big then .ok (.next (ρ.set i (.own ds))) S1 else .bad
  | .ownp i j es b, ρ, S => (evEs C es ρ S).bind fun ds S1 => if ds.length ≤ big then (evE C b ρ S1).bind fun y S2 => .ok (.next ((ρ.set i (.own ds)).set j (.val y))) S2 else .bad
  | .ownq i j a es, ρ, S => (evE C a ρ S).bind fun x S1 => (evEs C es ρ S1).bind fun ds S2 => if ds.length ≤ big then .ok (.next ((ρ.set i (.val x)).set j (.own ds))) S2 else .bad
  | .app i e, ρ, S => match slotO ρ i with
    | some xs => (evE C e ρ S).bind fun d S1 => if xs.length < big then .ok (.next (ρ.set i (.own (xs ++ [d])))) S1 else .bad
    | none => .bad
  | .rem i e, ρ, S => match slotO ρ i with
    | some xs => (evE C e ρ S).bind fun d S1 => match erasO d xs with | some ys => .ok (.next (ρ.set i (.own ys))) S1 | none => .bad
    | none => .bad
  | .setix a k v, ρ, S => (evE C v ρ S).bind fun d S1 => (evE C a ρ S1).bind fun x S2 => (evE C k ρ S2).bind fun y S3 => match x, y with
    | .obj n, .int i => match S3[n]? with
      | some (.lst xs) => if decide (0 ≤ i) && decide (i < xs.length) && noClo d then .ok (.next ρ) (S3.set n (.lst (xs.set i.toNat d))) else .bad
      | _ => .bad
    | _, _ => .bad
  | .expr e, ρ, S => (evE C e ρ S).bind fun _ S1 => .ok (.next ρ) S1
  | .ite c a b, ρ, S => (evT C c ρ S).bind fun k S1 => if k then evSs a ρ S1 else evSs b ρ S1
  | .for_ p it b, ρ, S => (evI C it ρ S).bind fun xs S1 => forLoop p (evSs b) xs ρ S1
  | .while_ c b, ρ, S => whileLoop (evT C c) (evSs b) F ρ S
  | .ret e, ρ, S => (evE C e ρ S).bind fun d S1 => .ok (.ret d) S1
  | .retOwn i, ρ, S => match slotO ρ i with | some xs => .ok (.ret (.lst xs)) S | none => .bad
  | .retNew es, ρ, S => (evEs C es ρ S).bind fun ds S1 => if decide (ds.length ≤ big) && noClos ds then .ok (.ret (.obj S1.length)) (S1 ++ [.lst ds]) else .bad
  | .raise c, _, S => .exc c S
  | .tryE told s, ρ, S => match evS s ρ S with
    | .exc c S1 => .ok (.ret (if told then .tup [.non, .str (nm c)] else .str (nm c))) S1
    | r => r
  | .frz i, ρ, S => match slotO ρ i with | some xs => .ok (.next (ρ.set i (.val (.lst xs)))) S | none => .bad
def evSs : Sxs → Env → Store → Rs Ou
  | .nil, ρ, S => .ok (.next ρ) S
  | .cons s ss, ρ, S => (evS s ρ S).bind fun o S1 => match o with
    | .next ρ1 => evSs ss ρ1 S1
    | .ret d => .ok (.ret d) S1
end
end
def frameN (n : Nat) (ds : List D) : Env := ds.map .val ++ List.replicate (n - ds.length) .none
abbrev frame (f : FnI) (ds : List D) : Env := frameN f.slots ds
/-- a call, so many calls deep at most -/
def callF (Φ : Nat → Option FnI) (Λ : Nat → Option LamI) (nm : Names) (F : Nat) : Nat → D → List D → Store → Rs D
  | 0, _, _, _ => .bad
  | n + 1, .fn f, ds, S => match Φ f with
    | some fi => if ds.length = fi.pars then (evSs (callF Φ Λ nm F n) nm F fi.body (frame fi ds) S).bind fun o S1 => match o with
        | .next _ => .ok .non S1
        | .ret d => .ok d S1
      else .bad
    | none => .bad
  | n + 1, .clo f caps, ds, S => match Λ f with
    | some l => if ds.length = l.pars ∧ caps.length = l.caps then evE (callF Φ Λ nm F n) l.body (frameN l.slots (ds ++ caps)) S else .bad
    | none => .bad
  | _ + 1, _, _, _ => .bad
end Iv
/-! Iv1: what the evaluator's values stand for in the model; steps of the heap. -/
namespace Iv
open PySem PySem.Spec PyProof.Rows L2
abbrev St := L2.St
/-- a lambda: the name its object bears, its text, the names it captures in the order of its slots -/
structure LamT where
  qual : Str
  params : Arguments
  body : Expr
  scope : Scope
  caps : List Str
/-- a live lambda with cells: which one, its object, its code object's place, its cells as objects, what they hold -/
structure CloV where
  id : Nat
  o : Obj
  c' : Addr
  cl : List (Str × Addr)
  cells : List (Addr × Obj)
  vs : List V
structure KOk (L : LamT) (k : CloV) : Prop where
  obj : ∃ pm ctv, k.o = PySem.W.kla_obj "<lambda>" L.qual L.params L.body L.scope k.cl pm k.c' ctv
  len : L.caps.length = k.vs.length
  at_ : ∀ (j : Nat) (x : Str) (v : V), L.caps[j]? = some x → k.vs[j]? = some v → ∃ c oc u, k.cl.lookup x = some c ∧ (c, oc) ∈ k.cells ∧ oc.data = .cell (some u) ∧ L2.RelV v u
  inj : ∀ x y c, k.cl.lookup x = some c → k.cl.lookup y = some c → x = y
  all : ∀ x c, k.cl.lookup x = some c → x ∈ L.caps
/-- what is fixed through a context: defs as values, lambdas, tables of code objects, error classes (many: the one that bears a dict), the defs' bodies, the words of errors, the fuel of loops; clo: the live lambdas -/
structure Gs where
  tab : Nat → Option V
  T : List (Addr × Str)
  cls : Nat → Addr
  many : Option Nat
  Φ : Nat → Option FnI
  Λ : Nat → Option LamI
  lamT : Nat → LamT
  nm : Names
  F : Nat
structure Gx extends Gs where
  clo : Addr → Option CloV
  cok : ∀ a k, clo a = some k → KOk (lamT k.id) k
def XD (G : Gx) (c : Nat) (dd : Option Addr) : Prop := some c ≠ G.many → dd = none
/-- one more live lambda -/
theorem Gx.add_ok (G : Gx) (a : Addr) (k : CloV) (h : KOk (G.lamT k.id) k) (b : Addr) (k' : CloV) (e : (if b = a then some k else G.clo b) = some k') : KOk (G.lamT k'.id) k' := by
  by_cases z : b = a
  · rw [if_pos z] at e; cases e; exact h
  · rw [if_neg z] at e; exact G.cok b k' e
def Gx.add (G : Gx) (a : Addr) (k : CloV) (h : KOk (G.lamT k.id) k) : Gx := { G with clo := fun b => if b = a then some k else G.clo b, cok := G.add_ok a k h }
/-- a lambda without captured names, tracked -/
def LamO (L : LamT) (a : Addr) (c' : Addr) : HO := .ext fun h => ∃ pm ctv, h.get? a = some (PySem.W.kla_obj "<lambda>" L.qual L.params L.body L.scope [] pm c' ctv)
section
variable (K : PySem.W.Frag) (G : Gx)
def TupK (a : Addr) (xs : List V) : Prop :=
  ∃ (o : Obj) (its : Array Value) (n : Nat), K.lookup a = some o ∧ o.cls = .type "tuple" ∧ o.data = .seq its n ∧ its.size ≤ sizeLine ∧ Vals xs its.toList
mutual
/-- v stands for d; what is at an address of N may change -/
inductive Rp (N : Addr → Prop) (μ : List Addr) (H : Hp) : V → D → Prop
  | non : Rp N μ H .non .non
  | bl (b : Bool) : Rp N μ H (.bl b) (.bl b)
  | int (i : Int) : Rp N μ H (.int i) (.int i)
  | str (x : Str) : Rp N μ H (.str x) (.str x)
  | tupH {a : Addr} {xs : List V} {ds : List D} : Rd H a (.tup xs) → ¬ N a → Rps N μ H xs ds → Rp N μ H (.ref a) (.tup ds)
  | tupK {a : Addr} {xs : List V} {ds : List D} : TupK K a xs → Rps N μ H xs ds → Rp N μ H (.ref a) (.tup ds)
  | lst {a : Addr} {xs : List V} {ds : List D} : Rd H a (.lst xs) → ¬ N a → Rps N μ H xs ds → Rp N μ H (.ref a) (.lst ds)
  | obj {a : Addr} {n : Nat} : μ[n]? = some a → Rp N μ H (.ref a) (.obj n)
  | fn {v : V} {n : Nat} : G.tab n = some v → Rp N μ H v (.fn n)
  | cloT {a c' : Addr} {n : Nat} : H a = some (LamO (G.lamT n) a c') → ¬ N a → H c' = some (LamX.CodeO c' (G.lamT n).qual) → ¬ N c' → Rp N μ H (.ref a) (.clo n [])
  | cloG {a : Addr} {k : CloV} {n : Nat} {ds : List D} : G.clo a = some k → k.id = n → H k.c' = some (LamX.CodeO k.c' (G.lamT n).qual) → ¬ N k.c' → Rps N μ H k.vs ds → Rp N μ H (.ref a) (.clo n ds)
inductive Rps (N : Addr → Prop) (μ : List Addr) (H : Hp) : List V → List D → Prop
  | nil : Rps N μ H [] []
  | cons {v : V} {vs : List V} {d : D} {ds : List D} : Rp N μ H v d → Rps N μ H vs ds → Rps N μ H (v :: vs) (d :: ds)
end
end
section
variable {K : PySem.W.Frag} {G : Gx} {N N' : Addr → Prop} {μ μ' : List Addr} {H H' : Hp}
mutual
theorem Rp.imp (hh : ∀ b o, H b = some o → ¬ N b → (∀ ps, o ≠ .tbl ps) → H' b = some o ∧ ¬ N' b) (hm : ∀ (n : Nat) (a : Addr), μ[n]? = some a → μ'[n]? = some a) : ∀ {v : V} {d : D}, Rp K G N μ H v d → Rp K G N' μ' H' v d
  | _, _, .non => .non
  | _, _, .bl b => .bl b
  | _, _, .int i => .int i
  | _, _, .str x => .str x
  | _, _, .tupH r n h => by
    rcases r with r | ⟨o, r⟩
    · obtain ⟨e, n'⟩ := hh _ _ r n (fun ps z => by cases z)
      exact .tupH (.inl e) n' (Rps.imp hh hm h)
    · obtain ⟨e, n'⟩ := hh _ _ r n (fun ps z => by cases z)
      exact .tupH (.inr ⟨o, e⟩) n' (Rps.imp hh hm h)
  | _, _, .tupK r h => .tupK r (Rps.imp hh hm h)
  | _, _, .lst r n h => by
    rcases r with r | ⟨o, r⟩
    · obtain ⟨e, n'⟩ := hh _ _ r n (fun ps z => by cases z)
      exact .lst (.inl e) n' (Rps.imp hh hm h)
    · obtain ⟨e, n'⟩ := hh _ _ r n (fun ps z => by cases z)
      exact .lst (.inr ⟨o, e⟩) n' (Rps.imp hh hm h)
  | _, _, .obj e => .obj (hm _ _ e)
  | _, _, .fn e => .fn e
  | _, _, .cloT e n e2 n2 => by
    obtain ⟨e', n'⟩ := hh _ _ e n (fun ps z => by unfold LamO at z; cases z)
    obtain ⟨e2', n2'⟩ := hh _ _ e2 n2 LamX.codeO_ne
    exact .cloT e' n' e2' n2'
  | _, _, .cloG e i e2 n2 r => by
    obtain ⟨e2', n2'⟩ := hh _ _ e2 n2 LamX.codeO_ne
    exact .cloG e i e2' n2' (Rps.imp hh hm r)
theorem Rps.imp (hh : ∀ b o, H b = some o → ¬ N b → (∀ ps, o ≠ .tbl ps) → H' b = some o ∧ ¬ N' b) (hm : ∀ (n : Nat) (a : Addr), μ[n]? = some a → μ'[n]? = some a) : ∀ {vs : List V} {ds : List D}, Rps K G N μ H vs ds → Rps K G N' μ' H' vs ds
  | _, _, .nil => .nil
  | _, _, .cons r h => .cons (Rp.imp hh hm r) (Rps.imp hh hm h)
end
theorem Rp.weak (h : ∀ b, N' b → N b) {v : V} {d : D} (r : Rp K G N μ H v d) : Rp K G N' μ H v d := r.imp (fun b o e n _ => ⟨e, fun z => n (h b z)⟩) fun _ _ e => e
theorem Rps.weak (h : ∀ b, N' b → N b) {v : List V} {d : List D} (r : Rps K G N μ H v d) : Rps K G N' μ H v d := r.imp (fun b o e n _ => ⟨e, fun z => n (h b z)⟩) fun _ _ e => e
theorem Rps.length {vs : List V} {ds : List D} : Rps K G N μ H vs ds → vs.length = ds.length
  | .nil => rfl
  | .cons _ h => by rw [List.length_cons, List.length_cons, h.length]
theorem Rps.get {i : Nat} {d : D} : ∀ {vs : List V} {ds : List D}, Rps K G N μ H vs ds → ds[i]? = some d → ∃ v, vs[i]? = some v ∧ Rp K G N μ H v d := by
  induction i with
  | zero =>
    intro vs ds r e
    cases r with
    | nil => simp at e
    | cons r _ =>
      simp at e
      subst e
      exact ⟨_, rfl, r⟩
  | succ i ih =>
    intro vs ds r e
    cases r with
    | nil => simp at e
    | cons _ r =>
      obtain ⟨v, e1, e2⟩ := ih r (by simpa using e)
      exact ⟨v, by simpa using e1, e2⟩
theorem Rps.get' {i : Nat} {v : V} : ∀ {vs : List V} {ds : List D}, Rps K G N μ H vs ds → vs[i]? = some v → ∃ d, ds[i]? = some d ∧ Rp K G N μ H v d := by
  induction i with
  | zero =>
    intro vs ds r e
    cases r with
    | nil => simp at e
    | cons r _ =>
      simp at e
      subst e
      exact ⟨_, rfl, r⟩
  | succ i ih =>
    intro vs ds r e
    cases r with
    | nil => simp at e
    | cons _ r =>
      obtain ⟨v, e1, e2⟩ := ih r (by simpa using e)
      exact ⟨v, by simpa using e1, e2⟩
theorem Rps.app {vs ws : List V} {ds es : List D} (a : Rps K G N μ H vs ds) (b : Rps K G N μ H ws es) : Rps K G N μ H (vs ++ ws) (ds ++ es) := by
  induction ds generalizing vs with
  | nil => cases a; exact b
  | cons d ds ih => cases a with | cons r a => exact .cons r (ih a)
theorem Rps.take (n : Nat) {vs : List V} {ds : List D} (a : Rps K G N μ H vs ds) : Rps K G N μ H (vs.take n) (ds.take n) := by
  induction n generalizing vs ds with
  | zero => exact .nil
  | succ n ih =>
    cases a with
    | nil => exact .nil
    | cons r a => exact .cons r (ih a)
theorem Rps.drop (n : Nat) {vs : List V} {ds : List D} (a : Rps K G N μ H vs ds) : Rps K G N μ H (vs.drop n) (ds.drop n) := by
  induction n generalizing vs ds with
  | zero => exact a
  | succ n ih =>
    cases a with
    | nil => exact .nil
    | cons r a => exact ih a
theorem Rps.rev {vs : List V} {ds : List D} (a : Rps K G N μ H vs ds) : Rps K G N μ H vs.reverse ds.reverse := by
  induction ds generalizing vs with
  | nil => cases a; exact .nil
  | cons d ds ih =>
    cases a with
    | cons r a =>
      rw [List.reverse_cons, List.reverse_cons]
      exact (ih a).app (.cons r .nil)
theorem Rps.rep (n : Nat) {vs : List V} {ds : List D} (a : Rps K G N μ H vs ds) : Rps K G N μ H (List.replicate n vs).flatten (List.replicate n ds).flatten := by
  induction n with
  | zero => exact .nil
  | succ n ih =>
    rw [List.replicate_succ, List.replicate_succ, List.flatten_cons, List.flatten_cons]
    exact a.app ih
theorem Rps.set (n : Nat) {v : V} {d : D} (r : Rp K G N μ H v d) {vs : List V} {ds : List D} (a : Rps K G N μ H vs ds) : Rps K G N μ H (vs.set n v) (ds.set n d) := by
  induction n generalizing vs ds with
  | zero =>
    cases a with
    | nil => exact .nil
    | cons _ a => exact .cons r a
  | succ n ih =>
    cases a with
    | nil => exact .nil
    | cons q a => exact .cons q (ih a)
/-- the tuple, the list behind a value -/
theorem Rp.tup_of {v : V} {ds : List D} (r : Rp K G N μ H v (.tup ds)) : ∃ a xs, v = .ref a ∧ SqT K H a xs ∧ Rps K G N μ H xs ds := by
  cases r with
  | tupH h _ q => exact ⟨_, _, rfl, .inl h, q⟩
  | tupK h q => exact ⟨_, _, rfl, .inr h, q⟩
theorem Rp.lst_of {v : V} {ds : List D} (r : Rp K G N μ H v (.lst ds)) : ∃ a xs, v = .ref a ∧ SqL K H a xs ∧ Rps K G N μ H xs ds := by
  cases r with
  | lst h _ q => exact ⟨_, _, rfl, .inl h, q⟩
mutual
/-- plain data, as the library's == and < read them -/
theorem Rp.dp : ∀ {d : D} {v : V} {p : PyData}, Rp K G N μ H v d → toPy d = some p → Dp K H v p
  | .non, _, _, r, e => by cases r; cases e; exact .non
  | .bl _, _, _, r, e => by cases r; cases e; exact .bl _
  | .int _, _, _, r, e => by cases r; cases e; exact .int _
  | .str _, _, _, r, e => by cases r; cases e; exact .str _
  | .tup ds, v, p, r, e => by
    obtain ⟨a, xs, rfl, h, q⟩ := r.tup_of
    rw [toPy] at e
    cases e2 : toPys ds with
    | none => rw [e2] at e; cases e
    | some ys => rw [e2] at e; cases e; exact .tup h (Rps.dp q e2)
  | .lst ds, v, p, r, e => by
    obtain ⟨a, xs, rfl, h, q⟩ := r.lst_of
    rw [toPy] at e
    cases e2 : toPys ds with
    | none => rw [e2] at e; cases e
    | some ys => rw [e2] at e; cases e; exact .lst h (Rps.dp q e2)
  | .obj _, _, _, _, e => by cases e
  | .fn _, _, _, _, e => by cases e
  | .clo _ _, _, _, _, e => by cases e
theorem Rps.dp : ∀ {ds : List D} {vs : List V} {ps : List PyData}, Rps K G N μ H vs ds → toPys ds = some ps → DpAll K H vs ps
  | [], _, _, r, e => by cases r; cases e; exact .nil
  | d :: ds, _, _, r, e => by
    cases r with
    | cons r q =>
      rw [toPys] at e
      cases e1 : toPy d with
      | none => rw [e1] at e; cases e
      | some a =>
        rw [e1] at e
        cases e2 : toPys ds with
        | none => rw [e2] at e; cases e
        | some b => rw [e2] at e; cases e; exact .cons (Rp.dp r e1) (Rps.dp q e2)
end
end
/-! ### steps of the heap -/
/-- from H to H': what may change is at μ (the store) and at O (lists that one frame holds) -/
structure Step (μ O : List Addr) (H : Hp) (μ' O' : List Addr) (H' : Hp) : Prop where
  ext : ∀ b o, H b = some o → b ∉ μ → b ∉ O → (∀ ps, o ≠ .tbl ps) → H' b = some o
  trk : ∀ b, H b ≠ none → H' b ≠ none
  mu : ∃ ν, μ' = μ ++ ν ∧ ∀ a ∈ ν, H a = none
  ow : ∀ a ∈ O', a ∈ O ∨ H a = none
theorem Step.refl (μ O : List Addr) (H : Hp) : Step μ O H μ O H := ⟨fun _ _ h _ _ _ => h, fun _ h => h, ⟨[], by simp, by simp⟩, fun _ h => .inl h⟩
theorem Step.trans {μ O μ1 O1 μ2 O2 : List Addr} {H H1 H2 : Hp} (a : Step μ O H μ1 O1 H1) (b : Step μ1 O1 H1 μ2 O2 H2) : Step μ O H μ2 O2 H2 := by
  obtain ⟨ν, e1, f1⟩ := a.mu
  obtain ⟨ν2, e2, f2⟩ := b.mu
  have back : ∀ x, H1 x = none → H x = none := fun x h => by
    cases q : H x with
    | none => rfl
    | some o => exact absurd h (a.trk x (by rw [q]; simp))
  refine ⟨fun x o h m q t => b.ext x o (a.ext x o h m q t) (fun z => ?_) (fun z => ?_) t, fun x h => b.trk x (a.trk x h), ⟨ν ++ ν2, by rw [e2, e1, List.append_assoc], fun x hx => ?_⟩, fun x hx => ?_⟩
  · rw [e1] at z
    rcases List.mem_append.mp z with z | z
    · exact m z
    · rw [f1 x z] at h; cases h
  · rcases a.ow x z with z | z
    · exact q z
    · rw [z] at h; cases h
  · rcases List.mem_append.mp hx with z | z
    · exact f1 x z
    · exact back x (f2 x z)
  · rcases b.ow x hx with z | z
    · exact a.ow x z
    · exact .inr (back x z)
/-- new objects alone -/
theorem Step.same {μ O : List Addr} {H H' : Hp} (e : Same H H') : Step μ O H μ O H' := ⟨fun b o h _ _ _ => e b o h, fun b h => by
  cases q : H b with
  | none => exact absurd q h
  | some o => rw [e b o q]; simp, ⟨[], by simp, by simp⟩, fun _ h => .inl h⟩
theorem Step.more {μ O μ' : List Addr} {H H' : Hp} (s : Step μ [] H μ' [] H') : Step μ O H μ' O H' := ⟨fun b o h m _ t => s.ext b o h m (by simp) t, s.trk, s.mu, fun _ h => .inl h⟩
theorem Step.drop {μ O μ' : List Addr} {H H' : Hp} (s : Step μ [] H μ' O H') : Step μ [] H μ' [] H' := ⟨s.ext, s.trk, s.mu, by simp⟩
/-- the addresses that may change in a frame's reach -/
def NN (M : Addr → Prop) (O μ : List Addr) : Addr → Prop := fun a => M a ∨ a ∈ O ∨ a ∈ μ
section
variable {K : PySem.W.Frag} {G : Gx} {M : Addr → Prop} {μ μ' O O' : List Addr} {H H' : Hp}
theorem Step.imp (s : Step μ O H μ' O' H') : ∀ b o, H b = some o → ¬ NN M O μ b → (∀ ps, o ≠ .tbl ps) → H' b = some o ∧ ¬ NN M O' μ' b := by
  intro b o h n t
  refine ⟨s.ext b o h (fun z => n (.inr (.inr z))) (fun z => n (.inr (.inl z))) t, fun z => ?_⟩
  rcases z with z | z | z
  · exact n (.inl z)
  · rcases s.ow b z with y | y
    · exact n (.inr (.inl y))
    · rw [y] at h; cases h
  · obtain ⟨ν, e, f⟩ := s.mu
    rw [e] at z
    rcases List.mem_append.mp z with y | y
    · exact n (.inr (.inr y))
    · rw [f b y] at h; cases h
theorem Step.mus (s : Step μ O H μ' O' H') : ∀ (n : Nat) (a : Addr), μ[n]? = some a → μ'[n]? = some a := fun n a e => by
  obtain ⟨ν, e1, _⟩ := s.mu
  have hl : n < μ.length := (List.getElem?_eq_some_iff.mp e).1
  rw [e1, List.getElem?_append_left hl]
  exact e
theorem Rp.step (s : Step μ O H μ' O' H') {v : V} {d : D} (r : Rp K G (NN M O μ) μ H v d) : Rp K G (NN M O' μ') μ' H' v d := r.imp s.imp s.mus
theorem Rps.step (s : Step μ O H μ' O' H') {v : List V} {d : List D} (r : Rps K G (NN M O μ) μ H v d) : Rps K G (NN M O' μ') μ' H' v d := r.imp s.imp s.mus
theorem Rp.same {N : Addr → Prop} (s : Same H H') {v : V} {d : D} (r : Rp K G N μ H v d) : Rp K G N μ H' v d := r.imp (fun b o e n _ => ⟨s b o e, n⟩) fun _ _ e => e
theorem Rps.same {N : Addr → Prop} (s : Same H H') {v : List V} {d : List D} (r : Rps K G N μ H v d) : Rps K G N μ H' v d := r.imp (fun b o e n _ => ⟨s b o e, n⟩) fun _ _ e => e
end
/-! ### the store, a frame -/
section
variable (K : PySem.W.Frag) (G : Gx)
/-- what the object of the store at a stands for -/
def ObR (N : Addr → Prop) (μ : List Addr) (H : Hp) (a : Addr) : Ob → Prop
  | .lst ds => ∃ xs, H a = some (.lst xs) ∧ Rps K G N μ H xs ds ∧ noClos ds = true
  | .ins _ _ => False
structure StOk (N : Addr → Prop) (μ : List Addr) (H : Hp) (S : Store) : Prop where
  len : μ.length = S.length
  nd : μ.Nodup
  ob : ∀ (n : Nat) (a : Addr) (o : Ob), μ[n]? = some a → S[n]? = some o → ObR K G N μ H a o
/-- where a frame began: the heap, the store, what others hold -/
structure Fr where
  H0 : Hp
  μ0 : List Addr
  M : Addr → Prop
/-- a list stands there -/
def IsL (H : Hp) (a : Addr) : Prop := ∃ xs, H a = some (.lst xs)
structure RelS (fr : Fr) (μ : List Addr) (H : Hp) (S : Store) : Prop where
  step : Step fr.μ0 [] fr.H0 μ [] H
  mtr : ∀ a, fr.M a → IsL fr.H0 a
  st : StOk K G (NN fr.M [] μ) μ H S
  tabs : LamX.Tabs G.T H
def SlR (N : Addr → Prop) (μ : List Addr) (H : Hp) (O : List Addr) (x : Option (Option V)) : Sl → Prop
  | .none => True
  | .val d => ∃ v, x = some (some v) ∧ Rp K G N μ H v d
  | .own ds => ∃ a xs, x = some (some (.ref a)) ∧ a ∈ O ∧ H a = some (.lst xs) ∧ Rps K G N μ H xs ds
structure Rel (fr : Fr) (μ O : List Addr) (H : Hp) (σ : St) (ρ : Env) (S : Store) : Prop where
  step : Step fr.μ0 [] fr.H0 μ O H
  mtr : ∀ a, fr.M a → IsL fr.H0 a
  oth : ∀ a ∈ O, IsL H a ∧ a ∉ μ
  st : StOk K G (NN fr.M O μ) μ H S
  tabs : LamX.Tabs G.T H
  len : σ.length = ρ.length
  env : ∀ (i : Nat) (s : Sl), ρ[i]? = some s → SlR K G (NN fr.M O μ) μ H O σ[i]? s
  own1 : ∀ (i j : Nat) (a : Addr) (ds es : List D), ρ[i]? = some (.own ds) → ρ[j]? = some (.own es) → σ[i]? = some (some (.ref a)) → σ[j]? = some (some (.ref a)) → i = j
end
section
variable {K : PySem.W.Frag} {G : Gx} {N N' : Addr → Prop} {fr : Fr} {μ μ' O O' : List Addr} {H H' : Hp} {σ σ' : St} {ρ ρ' : Env} {S S' : Store}
theorem ObR.imp (hh : ∀ b o, H b = some o → ¬ N b → (∀ ps, o ≠ .tbl ps) → H' b = some o ∧ ¬ N' b) (hm : ∀ (n : Nat) (a : Addr), μ[n]? = some a → μ'[n]? = some a) {a : Addr} (ha : H' a = H a) {o : Ob} (r : ObR K G N μ H a o) : ObR K G N' μ' H' a o := by
  cases o with
  | lst ds =>
    obtain ⟨xs, e, q, nc⟩ := r
    exact ⟨xs, ha.trans e, Rps.imp hh hm q, nc⟩
  | ins c fs => exact r.elim
theorem StOk.there (s : StOk K G N μ H S) {a : Addr} (h : a ∈ μ) : ∃ o, H a = some o ∧ ∀ ps, o ≠ .tbl ps := by
  obtain ⟨n, hn, e⟩ := List.mem_iff_getElem.mp h
  have e1 : μ[n]? = some a := by rw [List.getElem?_eq_getElem hn, e]
  have hl : n < S.length := by rw [← s.len]; exact hn
  have e2 : S[n]? = some S[n] := List.getElem?_eq_getElem hl
  have q := s.ob n a _ e1 e2
  cases e3 : S[n] with
  | lst ds =>
    rw [e3] at q
    obtain ⟨xs, e, _, _⟩ := q
    exact ⟨_, e, fun ps z => by cases z⟩
  | ins c fs => rw [e3] at q; exact q.elim
theorem Rel.relS (r : Rel K G fr μ O H σ ρ S) : RelS K G fr μ H S := by
  have w : ∀ b, NN fr.M [] μ b → NN fr.M O μ b := fun b z => by
    rcases z with z | z | z
    · exact .inl z
    · cases z
    · exact .inr (.inr z)
  refine ⟨r.step.drop, r.mtr, ⟨r.st.len, r.st.nd, fun n a o e1 e2 => ?_⟩, r.tabs⟩
  exact (r.st.ob n a o e1 e2).imp (fun b o e n _ => ⟨e, fun z => n (w b z)⟩) (fun _ _ e => e) rfl
theorem IsL.ne {H : Hp} {a : Addr} (h : IsL H a) : H a ≠ none := by obtain ⟨xs, e⟩ := h; rw [e]; simp
theorem StOk.isL (s : StOk K G N μ H S) {a : Addr} (h : a ∈ μ) : IsL H a := by
  obtain ⟨n, hn, e⟩ := List.mem_iff_getElem.mp h
  have e1 : μ[n]? = some a := by rw [List.getElem?_eq_getElem hn, e]
  have hl : n < S.length := by rw [← s.len]; exact hn
  have q := s.ob n a _ e1 (List.getElem?_eq_getElem hl)
  cases e3 : S[n] with
  | lst ds =>
    rw [e3] at q
    obtain ⟨xs, e, _, _⟩ := q
    exact ⟨xs, e⟩
  | ins c fs => rw [e3] at q; exact q.elim
/-- what N says is a list -/
theorem Rel.nl (r : Rel K G fr μ O H σ ρ S) : ∀ a, NN fr.M O μ a → IsL H a := fun a z => by
  by_cases hm : a ∈ μ
  · exact r.st.isL hm
  rcases z with z | z | z
  · by_cases hO : a ∈ O
    · exact (r.oth a hO).1
    obtain ⟨xs, e⟩ := r.mtr a z
    obtain ⟨ν, e1, _⟩ := r.step.mu
    exact ⟨xs, r.step.ext a _ e (fun y => hm (by rw [e1]; exact List.mem_append_left _ y)) (by simp) (fun ps z => by cases z)⟩
  · exact (r.oth a z).1
  · exact absurd z hm
theorem Rel.nt (r : Rel K G fr μ O H σ ρ S) : ∀ a, NN fr.M O μ a → H a ≠ none := fun a z => (r.nl a z).ne
theorem StOk.same (e : Same H H') (s : StOk K G N μ H S) : StOk K G N μ H' S := ⟨s.len, s.nd, fun n a o e1 e2 => by
  have q := s.ob n a o e1 e2
  have hm : a ∈ μ := List.mem_of_getElem? e1
  obtain ⟨u, h, _⟩ := s.there hm
  exact q.imp (fun b o h n _ => ⟨e b o h, n⟩) (fun _ _ h => h) (by rw [h, e a u h])⟩
/-- behind a step that leaves this frame's lists alone -/
theorem Rel.next (r : Rel K G fr μ O H σ ρ S) (s : Step μ [] H μ' [] H') (st : StOk K G (NN fr.M O μ') μ' H' S') (tb : LamX.Tabs G.T H') : Rel K G fr μ' O H' σ ρ S' := by
  have sO : Step μ O H μ' O H' := s.more
  refine ⟨r.step.trans sO, r.mtr, fun a ha => ⟨(r.oth a ha).1.imp fun xs e => s.ext a _ e (r.oth a ha).2 (by simp) (fun ps z => by cases z), fun z => ?_⟩, st, tb, r.len, fun i sl e => ?_, r.own1⟩
  · obtain ⟨ν, e, f⟩ := s.mu
    rw [e] at z
    rcases List.mem_append.mp z with z | z
    · exact (r.oth a ha).2 z
    · exact (r.oth a ha).1.ne (f a z)
  · have q := r.env i sl e
    cases sl with
    | none => trivial
    | val d =>
      obtain ⟨v, e1, q⟩ := q
      exact ⟨v, e1, q.step sO⟩
    | own ds =>
      obtain ⟨a, xs, e1, ha, e2, q⟩ := q
      exact ⟨a, xs, e1, ha, s.ext a _ e2 (r.oth a ha).2 (by simp) (fun ps z => by cases z), q.step sO⟩
theorem Rel.same (r : Rel K G fr μ O H σ ρ S) (e : Same H H') : Rel K G fr μ O H' σ ρ S := r.next (Step.same e) (r.st.same e) (r.tabs.ext e)
end
end Iv
/-! Iv2: readings of the evaluator's ends; the operators, by values. -/
namespace Iv
open PySem PySem.Spec PyProof.Rows L2
theorem _root_.L2.PE.imp {X : Cx} {e : Expr} {t t' : TE} (h : PE X e t) (hi : ∀ σ H Q, t' σ H Q → t σ H Q) : PE X e t' := ⟨fun pins s σ H Q I w => h.run pins s σ H Q I (hi σ H Q w)⟩
theorem _root_.L2.PT.imp {X : Cx} {e : Expr} {t t' : TT} (h : PT X e t) (hi : ∀ σ H Q, t' σ H Q → t σ H Q) : PT X e t' := ⟨fun pins s σ H Q I w => h.run pins s σ H Q I (hi σ H Q w)⟩
theorem _root_.L2.PA.imp {X : Cx} {e : List Expr} {t t' : TA} (h : PA X e t) (hi : ∀ σ H Q, t' σ H Q → t σ H Q) : PA X e t' := ⟨fun pos pins s σ H Q I w => h.run pos pins s σ H Q I (hi σ H Q w)⟩
theorem _root_.L2.PS.imp {X : Cx} {e : Stmt} {t t' : TS} (h : PS X e t) (hi : ∀ D σ H, t' D σ H → t D σ H) : PS X e t' := ⟨fun pins s σ H D I w => h.run pins s σ H D I (hi D σ H w)⟩
theorem _root_.L2.PSs.imp {X : Cx} {e : List Stmt} {t t' : TS} (h : PSs X e t) (hi : ∀ D σ H, t' D σ H → t D σ H) : PSs X e t' := ⟨fun pins s σ H D I w => h.run pins s σ H D I (hi D σ H w)⟩
theorem _root_.L2.PI.imp {X : Cx} {tg e : Expr} {t t' : TI} (h : PI X tg e t) (hi : ∀ σ H R, t' σ H R → t σ H R) : PI X tg e t' := ⟨fun pins s σ H R I w => h.run pins s σ H R I (hi σ H R w)⟩
theorem _root_.L2.PG.imp {X : Cx} {e : Expr} {t t' : TG} (h : PG X e t) (hi : ∀ v σ H Q, t' v σ H Q → t v σ H Q) : PG X e t' := ⟨fun pins s σ H v u Q I r w => h.run pins s σ H v u Q I r (hi v σ H Q w)⟩
theorem _root_.L2.OpR.imp {X : Cx} {f : Value → Value → Sem Value} {r r' : R2} (h : OpR X f r) (hi : ∀ x y H Q, r' x y H Q → r x y H Q) : OpR X f r' := fun pins s σ H x y v u Q I rx ry w => h pins s σ H x y v u Q I rx ry (hi x y H Q w)
/-- an evaluation's end is met: RR: what a value stands for -/
def End (K : PySem.W.Frag) (G : Gx) (W : WX) {α β : Type} (RR : (Addr → Prop) → List Addr → Hp → β → α → Prop) (fr : Fr) (μ O : List Addr) (H : Hp) (σ : St) (ρ : Env) (r : Rs α) (Q : β → Hp → Prop) : Prop :=
  match r with
  | .ok d S' => ∀ v H' μ', Step μ [] H μ' [] H' → Rel K G fr μ' O H' σ ρ S' → RR (NN fr.M O μ') μ' H' v d → Q v H'
  | .exc c S' => ∀ dd H' μ', XD G c dd → RelS K G fr μ' H' S' → W (.ref (G.cls c)) dd σ H'
  | .bad => False
def TX (K : PySem.W.Frag) (G : Gx) (W : WX) {α β : Type} (RR : (Addr → Prop) → List Addr → Hp → β → α → Prop) (f : Env → Store → Rs α) : St → Hp → (β → Hp → Prop) → Prop := fun σ H Q =>
  ∃ fr μ O ρ S, Rel K G fr μ O H σ ρ S ∧ End K G W RR fr μ O H σ ρ (f ρ S) Q
/-- equal, whatever stands in the heap -/
def RId {α : Type} : (Addr → Prop) → List Addr → Hp → α → α → Prop := fun _ _ _ a b => a = b
section
variable (K : PySem.W.Frag) (G : Gx) (W : WX) (n : Nat)
abbrev ev (e : Ex) := evE (callF G.Φ G.Λ G.nm G.F n) e
abbrev evs (e : Exs) := evEs (callF G.Φ G.Λ G.nm G.F n) e
abbrev evt (e : Ex) := evT (callF G.Φ G.Λ G.nm G.F n) e
def tE (e : Ex) : TE := TX K G W (Rp K G) (ev G n e)
def tA (es : Exs) : TA := TX K G W (Rps K G) (evs G n es)
def tT (e : Ex) : TT := TX K G W RId (evt G n e)
end
section
variable {K : PySem.W.Frag} {G : Gx} {W : WX} {n : Nat} {α β γ δ : Type} {RR : (Addr → Prop) → List Addr → Hp → β → α → Prop} {R2 : (Addr → Prop) → List Addr → Hp → δ → γ → Prop}
  {fr : Fr} {μ μ' O : List Addr} {H H' : Hp} {σ : St} {ρ : Env} {S S' : Store} {r : Rs α} {f : α → Store → Rs γ} {Q : δ → Hp → Prop}
/-- from a later point -/
theorem End.later {r : Rs γ} (s : Step μ [] H μ' [] H') (h : End K G W R2 fr μ O H σ ρ r Q) : End K G W R2 fr μ' O H' σ ρ r Q := by
  cases r with
  | ok d S' => exact fun v H2 μ2 s2 => h v H2 μ2 (s.trans s2)
  | exc c S' => exact h
  | bad => exact h
/-- one part behind another -/
theorem End.bind (h : End K G W R2 fr μ O H σ ρ (r.bind f) Q) :
    End K G W RR fr μ O H σ ρ r fun v H1 => ∃ d S1 μ1, Step μ O H μ1 O H1 ∧ Rel K G fr μ1 O H1 σ ρ S1 ∧ RR (NN fr.M O μ1) μ1 H1 v d ∧ End K G W R2 fr μ1 O H1 σ ρ (f d S1) Q := by
  cases r with
  | ok d S' => exact fun v H1 μ1 s rel rr => ⟨d, S', μ1, s.more, rel, rr, End.later s h⟩
  | exc c S' => exact h
  | bad => exact h
/-- .. with the bare step -/
theorem End.bind0 (h : End K G W R2 fr μ O H σ ρ (r.bind f) Q) :
    End K G W RR fr μ O H σ ρ r fun v H1 => ∃ d S1 μ1, Step μ [] H μ1 [] H1 ∧ Rel K G fr μ1 O H1 σ ρ S1 ∧ RR (NN fr.M O μ1) μ1 H1 v d ∧ End K G W R2 fr μ1 O H1 σ ρ (f d S1) Q := by
  cases r with
  | ok d S' => exact fun v H1 μ1 s rel rr => ⟨d, S', μ1, s, rel, rr, End.later s h⟩
  | exc c S' => exact h
  | bad => exact h
theorem End.mono {Q Q' : β → Hp → Prop} (h : End K G W RR fr μ O H σ ρ r Q) (hq : ∀ v H', Q v H' → Q' v H') : End K G W RR fr μ O H σ ρ r Q' := by
  cases r with
  | ok d S' => exact fun v H1 μ1 s rel rr => hq v H1 (h v H1 μ1 s rel rr)
  | exc c S' => exact h
  | bad => exact h
theorem End.of_some {o : Option α} {Q : β → Hp → Prop} (h : End K G W RR fr μ O H σ ρ (Rs.of o S) Q) : ∃ d, o = some d ∧ End K G W RR fr μ O H σ ρ (.ok d S) Q := by
  cases o with
  | none => exact h.elim
  | some d => exact ⟨d, rfl, h⟩
/-- the end, at a later heap that only holds new objects more -/
theorem End.fin {d : α} {Q : β → Hp → Prop} (h : End K G W RR fr μ O H σ ρ (.ok d S) Q) (rel : Rel K G fr μ O H σ ρ S) {v : β} (e : Same H H') (rr : RR (NN fr.M O μ) μ H' v d) : Q v H' :=
  h v H' μ (Step.same e) (rel.same e) rr
end
/-! ### the operators -/
def NT (N : Addr → Prop) (H : Hp) : Prop := ∀ a, N a → H a ≠ none
theorem same_upd {H : Hp} {p : Addr} {o : HO} (h : H p = none) : Same H (upd H p o) := fun b x e => by
  rw [upd_ne (ne_of_none e h)]
  exact e
section
variable {K : PySem.W.Frag} {G : Gx} {N : Addr → Prop} {μ : List Addr} {H : Hp}
theorem NT.new {p : Addr} (t : NT N H) (h : H p = none) : ¬ N p := fun z => t p z h
theorem Rp.newT {p : Addr} {xs : List V} {ds : List D} (t : NT N H) (h : H p = none) (r : Rps K G N μ H xs ds) : Rp K G N μ (upd H p (.tup xs)) (.ref p) (.tup ds) :=
  .tupH (.inl upd_same) (t.new h) (r.same (same_upd h))
theorem Rp.newL {p : Addr} {xs : List V} {ds : List D} (t : NT N H) (h : H p = none) (r : Rps K G N μ H xs ds) : Rp K G N μ (upd H p (.lst xs)) (.ref p) (.lst ds) :=
  .lst (.inl upd_same) (t.new h) (r.same (same_upd h))
theorem big_eq : big = sizeLine := by rw [sizeLine_eq]; rfl
end
def rBin (K : PySem.W.Frag) (G : Gx) (op : BOp) : R2 := fun x y H Q => ∃ N μ dx dy d, NT N H ∧ Rp K G N μ H x dx ∧ Rp K G N μ H y dy ∧ binO op dx dy = some d ∧ ∀ v H', Same H H' → Rp K G N μ H' v d → Q v H'
theorem Rp.lst_rd {K : PySem.W.Frag} {G : Gx} {N : Addr → Prop} {μ : List Addr} {H : Hp} {v : V} {ds : List D} (r : Rp K G N μ H v (.lst ds)) : ∃ a xs, v = .ref a ∧ Rd H a (.lst xs) ∧ Rps K G N μ H xs ds := by
  cases r with
  | lst h _ q => exact ⟨_, _, rfl, h, q⟩
section
variable {X : Cx} {G : Gx}
theorem op_addB : OpR X (binaryOp .Add) (fun x y H Q => ∃ b j, x = .bl b ∧ y = .int j ∧ Q (.int (b2 b + j)) H) := by
  intro pins s σ H x y v u Q I rx ry ⟨b, j, ex, ey, q⟩
  subst ex ey
  cases rx
  obtain ⟨t, rfl⟩ := ry
  exact PySem.IntBool.add_bool_int ⟨.int (b2 b + j), H, I.tok _, ⟨_, rfl⟩, q⟩
theorem op_subB : OpR X (binaryOp .Sub) (fun x y H Q => ∃ b j, x = .bl b ∧ y = .int j ∧ Q (.int (b2 b - j)) H) := by
  intro pins s σ H x y v u Q I rx ry ⟨b, j, ex, ey, q⟩
  subst ex ey
  cases rx
  obtain ⟨t, rfl⟩ := ry
  exact PySem.IntBool.sub_bool_int ⟨.int (b2 b - j), H, I.tok _, ⟨_, rfl⟩, q⟩
theorem op_mulB : OpR X (binaryOp .Mult) (fun x y H Q => ∃ i b, x = .int i ∧ y = .bl b ∧ Q (.int (i * b2 b)) H) := by
  intro pins s σ H x y v u Q I rx ry ⟨i, b, ex, ey, q⟩
  subst ex ey
  cases ry
  obtain ⟨t, rfl⟩ := rx
  exact PySem.IntBool.mul_int_bool ⟨.int (i * b2 b), H, I.tok _, ⟨_, rfl⟩, q⟩
def rCatR : R2 := fun x y H Q => ∃ l b xs zs, x = .ref l ∧ y = .ref b ∧ Rd H l (.lst xs) ∧ Rd H b (.lst zs) ∧ xs.length + zs.length ≤ sizeLine ∧ ∀ p, H p = none → Q (.ref p) (upd H p (.lst (xs ++ zs)))
theorem op_catR : OpR X (binaryOp .Add) rCatR := by
  intro pins s σ H x y v u Q I rx ry h
  obtain ⟨l, b, xs, zs, rfl, rfl, hH, hB, hz, q⟩ := h
  cases rx
  cases ry
  obtain ⟨hl, its, n, r, e⟩ := hH.ok I.hok
  obtain ⟨hl2, its2, n2, r2, e2⟩ := hB.ok I.hok
  have l1 := r.length
  have l2 := r2.length
  refine PySem.P.add_list e e2 ?_ (by rw [List.size_toArray, List.size_toArray]; omega)
  have ea : its.toArray ++ its2.toArray = (its ++ its2).toArray := by simp
  rw [ea]
  exact ⟨.ref _, _, I.lnew (t' := s.toks) (r.append r2) (by rw [List.length_append]; omega), rfl, q _ I.fresh⟩
def rRepR : R2 := fun x y H Q => ∃ l k xs, x = .ref l ∧ y = .int k ∧ Rd H l (.lst xs) ∧ -(2 ^ 63) ≤ k ∧ k < 2 ^ 63 ∧ xs.length * k.toNat ≤ sizeLine ∧
  ∀ p, H p = none → Q (.ref p) (upd H p (.lst (List.replicate k.toNat xs).flatten))
theorem op_repR : OpR X (binaryOp .Mult) rRepR := by
  intro pins s σ H x y v u Q I rx ry h
  obtain ⟨l, k, xs, rfl, rfl, hH, h1, h2, hz, q⟩ := h
  cases rx
  obtain ⟨t, rfl⟩ := ry
  obtain ⟨_, its, n, r, e⟩ := hH.ok I.hok
  have hl := r.length
  have hlen : its.toArray.size * k.toNat ≤ sizeLine := by rw [List.size_toArray, ← hl]; exact hz
  have hcap : ¬ its.toArray.size * k.toNat > (2 ^ 63 - 1) / 8 := by
    have : (sizeLine : Nat) ≤ (2 ^ 63 - 1) / 8 := by decide
    omega
  have hfit : ¬ (!Builtin.List.listFitsIndex k) = true := by
    rw [fitsIndex_both h1 h2]
    exact Bool.false_ne_true
  have hlong : ¬ Builtin.List.listTooLong (its.toArray.size * k.toNat) = true := by
    rw [notLongL hlen]
    exact Bool.false_ne_true
  have hnew : List.foldl (fun x1 x2 => x1 ++ x2) #[] (List.replicate (if its.toArray.isEmpty = true then 0 else k.toNat) its.toArray) = (List.replicate k.toNat its).flatten.toArray := by
    have f0 : ∀ m : Nat, List.foldl (fun x1 x2 => x1 ++ x2) #[] (List.replicate m its.toArray) = (List.replicate m its).flatten.toArray := fun m => by
      have := foldl_rep its m []
      rw [List.nil_append] at this
      exact this
    rw [f0]
    cases its with
    | nil => simp
    | cons a r' => rw [if_neg (by simp)]
  refine wpAny_binaryOp_repeat_ref (T := "list") (U := "int") (by decide) ⟨_, e, rfl⟩ (fun s' => typeIs_int s' k t) noFill_list_mul F.fills_int_mul F.slot_int_rmul repeat_list F.slot_int_index.lookup
    (call_meets F.slot_int_rmul (typeIs_int s k t) F.entry_int_rmul (F.args_int_rmul_2 _ _) (int___rmul___int_list k t l its.toArray n)
      ⟨e, rfl, ⟨_, e, rfl⟩, call_meets F.slot_list_mul ⟨_, e, rfl⟩ F.entry_list_mul (F.args_list_mul_2 _ _) (AutoListH.list___mul___list_int_3 l its.toArray n k t hfit hcap hlong) ⟨e, ?_⟩⟩)
  rw [hnew]
  exact ⟨.ref _, _, I.lnew (t' := s.toks) (r.rep k.toNat) (by rw [PyProof.Rows.lm_len_rep_flat, Nat.mul_comm]; exact hz), rfl, q _ I.fresh⟩
def CMulV (i j : Int) : Prop := i.natAbs.log2 + j.natAbs.log2 < 100000000
theorem CMulV.ok {i j : Int} (h : CMulV i j) : IntMulOk i j := by
  have b : ∀ x : Int, Builtin.Int.intBits x ≤ x.natAbs.log2 + 1 := fun x => by
    unfold Builtin.Int.intBits
    split <;> omega
  have h1 := b i
  have h2 := b j
  have h3 : i.natAbs.log2 + j.natAbs.log2 < 100000000 := h
  have e : bitsLine = 134217728 := by decide
  intro z
  rw [Bool.and_eq_true] at z
  have z2 := z.2
  unfold Builtin.Int.intTooBig at z2
  have z3 := of_decide_eq_true z2
  rw [e] at z3
  omega
theorem op_mulV : OpR X (binaryOp .Mult) (rI CMulV fun i j => .int (i * j)) := opI fun _ _ _ _ _ _ _ hc q => mul_int q hc.ok
theorem or_mul : OpR X (binaryOp .Mult) (rBin X.K G .mul) := by
  intro pins s σ H x y v u Q I rx ry ⟨N, μ, dx, dy, d, nt, hx, hy, e, q⟩
  cases dx <;> cases dy <;> try (simp [binO] at e; done)
  case int.int i j =>
    cases hx; cases hy
    simp only [binO] at e
    split at e
    · rename_i hj
      cases e
      exact op_mulV pins s σ H _ _ v u Q I rx ry ⟨i, j, rfl, rfl, (show i.natAbs.log2 + j.natAbs.log2 < 100000000 from of_decide_eq_true hj), q _ _ (Same.refl H) (.int _)⟩
    · cases e
  case tup.int xs k =>
    cases hy
    simp only [binO] at e
    split at e
    · rename_i hj
      rw [Bool.and_eq_true, Bool.and_eq_true, Bool.and_eq_true, decide_eq_true_eq, decide_eq_true_eq, decide_eq_true_eq] at hj
      cases e
      obtain ⟨⟨⟨h1, h2⟩, h3⟩, h4⟩ := hj
      obtain ⟨a, vs, rfl, h, r⟩ := hx.tup_of
      have hl := r.length
      refine op_repT pins s σ H _ _ v u Q I rx ry ⟨a, k, vs, rfl, rfl, h, fun z => ?_, h2, h3, by omega, fun p hp => q _ _ (same_upd hp) (Rp.newT nt hp (r.rep _))⟩
      subst z
      cases r
      cases h1
    · cases e
  case lst.int xs k =>
    cases hy
    simp only [binO] at e
    split at e
    · rename_i hj
      rw [Bool.and_eq_true, Bool.and_eq_true, decide_eq_true_eq, decide_eq_true_eq, decide_eq_true_eq] at hj
      cases e
      obtain ⟨⟨h1, h2⟩, h3⟩ := hj
      obtain ⟨a, vs, rfl, h, r⟩ := hx.lst_rd
      have hl := r.length
      refine op_repR pins s σ H _ _ v u Q I rx ry ⟨a, k, vs, rfl, rfl, h, by omega, by omega, ?_, fun p hp => q _ _ (same_upd hp) (Rp.newL nt hp (r.rep _))⟩
      have h5 : vs.length * k.toNat ≤ 1000 * 1000 := Nat.mul_le_mul (by omega) (by omega)
      rw [sizeLine_eq]
      omega
    · cases e
  case int.bl i b =>
    cases hx; cases hy; cases e
    exact op_mulB pins s σ H _ _ v u Q I rx ry ⟨i, b, rfl, rfl, q _ _ (Same.refl H) (.int _)⟩
theorem or_add : OpR X (binaryOp .Add) (rBin X.K G .add) := by
  intro pins s σ H x y v u Q I rx ry ⟨N, μ, dx, dy, d, nt, hx, hy, e, q⟩
  cases dx <;> cases dy <;> try (simp [binO] at e; done)
  case int.int i j =>
    cases hx; cases hy; cases e
    exact op_add pins s σ H _ _ v u Q I rx ry ⟨i, j, rfl, rfl, q _ _ (Same.refl H) (.int _)⟩
  case str.str i j =>
    cases hx; cases hy
    simp only [binO] at e
    split at e
    · rename_i hl
      cases e
      exact op_add_str pins s σ H _ _ v u Q I rx ry ⟨i, j, rfl, rfl, by rw [← big_eq]; exact hl, q _ _ (Same.refl H) (.str _)⟩
    · cases e
  case tup.tup xs ys =>
    simp only [binO] at e
    split at e
    · rename_i hl
      cases e
      obtain ⟨a, vs, rfl, h1, r1⟩ := hx.tup_of
      obtain ⟨b, ws, rfl, h2, r2⟩ := hy.tup_of
      refine op_catA pins s σ H _ _ v u Q I rx ry ⟨a, b, vs, ws, rfl, rfl, h1, h2, by rw [r1.length, r2.length, ← big_eq]; exact hl, fun z => ?_, fun z1 z2 => ?_, fun z1 z2 p hp => ?_⟩
      · subst z
        cases r1
        exact q _ _ (Same.refl H) hy
      · subst z2
        cases r2
        exact q _ _ (Same.refl H) (by rw [List.append_nil]; exact hx)
      · exact q _ _ (same_upd hp) (Rp.newT nt hp (r1.app r2))
    · cases e
  case lst.lst xs ys =>
    simp only [binO] at e
    split at e
    · rename_i hl
      cases e
      obtain ⟨a, vs, rfl, h1, r1⟩ := hx.lst_rd
      obtain ⟨b, ws, rfl, h2, r2⟩ := hy.lst_rd
      exact op_catR pins s σ H _ _ v u Q I rx ry ⟨a, b, vs, ws, rfl, rfl, h1, h2, by rw [r1.length, r2.length, ← big_eq]; exact hl, fun p hp => q _ _ (same_upd hp) (Rp.newL nt hp (r1.app r2))⟩
    · cases e
  case bl.int b j =>
    cases hx; cases hy; cases e
    exact op_addB pins s σ H _ _ v u Q I rx ry ⟨b, j, rfl, rfl, q _ _ (Same.refl H) (.int _)⟩
theorem or_sub : OpR X (binaryOp .Sub) (rBin X.K G .sub) := by
  intro pins s σ H x y v u Q I rx ry ⟨N, μ, dx, dy, d, nt, hx, hy, e, q⟩
  cases dx <;> cases dy <;> try (simp [binO] at e; done)
  case int.int i j =>
    cases hx; cases hy; cases e
    exact op_sub pins s σ H _ _ v u Q I rx ry ⟨i, j, rfl, rfl, q _ _ (Same.refl H) (.int _)⟩
  case bl.int b j =>
    cases hx; cases hy; cases e
    exact op_subB pins s σ H _ _ v u Q I rx ry ⟨b, j, rfl, rfl, q _ _ (Same.refl H) (.int _)⟩
theorem or_mod : OpR X (binaryOp .Mod) (rBin X.K G .mod) := by
  intro pins s σ H x y v u Q I rx ry ⟨N, μ, dx, dy, d, nt, hx, hy, e, q⟩
  cases dx <;> cases dy <;> try (simp [binO] at e; done)
  case int.int i j =>
    cases hx; cases hy
    simp only [binO] at e
    split at e
    · cases e
    · rename_i hj
      cases e
      exact op_modN pins s σ H _ _ v u Q I rx ry ⟨i, j, rfl, rfl, hj, q _ _ (Same.refl H) (.int _)⟩
/-- // by a divisor of either sign -/
def CDivG (_ j : Int) : Prop := j ≠ 0 ∧ j.natAbs.log2 < 9000
theorem op_fdivG : OpR X (binaryOp .FloorDiv) (rI CDivG fun i j => .int (i.fdiv j)) := opI fun _ _ _ _ _ _ _ hc q => floordiv_int hc.1 q (.inl (PyProof.noPylong_of_log2 hc.2))
theorem or_fdiv : OpR X (binaryOp .FloorDiv) (rBin X.K G .fdiv) := by
  intro pins s σ H x y v u Q I rx ry ⟨N, μ, dx, dy, d, nt, hx, hy, e, q⟩
  cases dx <;> cases dy <;> try (simp [binO] at e; done)
  case int.int i j =>
    cases hx; cases hy
    simp only [binO] at e
    split at e
    · rename_i hj
      rw [Bool.and_eq_true, decide_eq_true_eq, decide_eq_true_eq] at hj
      cases e
      exact op_fdivG pins s σ H _ _ v u Q I rx ry ⟨i, j, rfl, rfl, hj, q _ _ (Same.refl H) (.int _)⟩
    · cases e
theorem or_pow : OpR X (binaryOp .Pow) (rBin X.K G .pow) := by
  intro pins s σ H x y v u Q I rx ry ⟨N, μ, dx, dy, d, nt, hx, hy, e, q⟩
  cases dx <;> cases dy <;> try (simp [binO] at e; done)
  case int.int i j =>
    cases hx; cases hy
    simp only [binO] at e
    split at e
    · rename_i hj
      rw [Bool.and_eq_true, Bool.and_eq_true, decide_eq_true_eq, decide_eq_true_eq, decide_eq_true_eq] at hj
      cases e
      exact op_pow pins s σ H _ _ v u Q I rx ry ⟨i, j, rfl, rfl, ⟨hj.1.1, hj.1.2, hj.2⟩, q _ _ (Same.refl H) (.int _)⟩
    · cases e
/-! ### comparisons -/
def copOf : COp → CmpOp
  | .eq => .Eq | .ne => .NotEq | .lt => .Lt | .le => .LtE | .gt => .Gt | .ge => .GtE | .is => .Is | .isNot => .IsNot | .in_ => .In | .notIn => .NotIn
def rCmp (K : PySem.W.Frag) (G : Gx) (op : COp) : R2 := fun x y H Q => ∃ N μ dx dy k, Rp K G N μ H x dx ∧ Rp K G N μ H y dy ∧ cmpO op dx dy = some k ∧ Q (.bl k) H
theorem eqO_some {dx dy : D} {k : Bool} (h : eqO dx dy = some k) : ∃ a b, toPy dx = some a ∧ toPy dy = some b ∧ SeqAt.shaped a = true ∧ SeqAt.shaped b = true ∧ k = PyData.eqv a b := by
  unfold eqO at h
  cases e1 : toPy dx with
  | none => rw [e1] at h; cases h
  | some a =>
    rw [e1] at h
    cases e2 : toPy dy with
    | none => rw [e2] at h; cases h
    | some b =>
      rw [e2] at h
      simp only at h
      split at h
      · rename_i hs
        rw [Bool.and_eq_true] at hs
        cases h
        exact ⟨a, b, rfl, rfl, hs.1, hs.2, rfl⟩
      · cases h
theorem or_eq (hu : X.A.units + 64 < cLine) : OpR X (compareOp .Eq) (rCmp X.K G .eq) := by
  intro pins s σ H x y v u Q I rx ry ⟨N, μ, dx, dy, k, hx, hy, e, q⟩
  obtain ⟨a, b, e1, e2, s1, s2, rfl⟩ := eqO_some e
  exact op_eqD hu pins s σ H x y v u Q I rx ry ⟨a, b, hx.dp e1, hy.dp e2, s1, s2, q⟩
theorem or_ne (hu : X.A.units + 64 < cLine) : OpR X (compareOp .NotEq) (rCmp X.K G .ne) := by
  intro pins s σ H x y v u Q I rx ry ⟨N, μ, dx, dy, k, hx, hy, e, q⟩
  replace e : (eqO dx dy).map (!·) = some k := e
  cases h : eqO dx dy with
  | none => rw [h] at e; cases e
  | some k' =>
    rw [h] at e
    cases e
    obtain ⟨a, b, e1, e2, s1, s2, rfl⟩ := eqO_some h
    exact op_neD hu pins s σ H x y v u Q I rx ry ⟨a, b, hx.dp e1, hy.dp e2, s1, s2, q⟩
theorem or_lt (hu : X.A.units + 64 < cLine) : OpR X (compareOp .Lt) (rCmp X.K G .lt) := by
  intro pins s σ H x y v u Q I rx ry ⟨N, μ, dx, dy, k, hx, hy, e, q⟩
  replace e : ltO dx dy = some k := e
  cases dx <;> cases dy <;> try (simp [ltO] at e; done)
  case int.int i j =>
    cases hx; cases hy; cases e
    exact op_lt pins s σ H _ _ v u Q I rx ry ⟨i, j, rfl, rfl, q⟩
  case tup.tup xs ys =>
    simp only [ltO] at e
    cases e1 : toPy (.tup xs) with
    | none => rw [e1] at e; cases e
    | some a =>
      rw [e1] at e
      cases e2 : toPy (.tup ys) with
      | none => rw [e2] at e; cases e
      | some b =>
        rw [e2] at e
        simp only at e
        split at e
        · rename_i hs
          rw [Bool.and_eq_true] at hs
          cases e
          obtain ⟨as, r1⟩ := Dp.reads I a x v (hx.dp e1) rx
          obtain ⟨bs, r2⟩ := Dp.reads I b y u (hy.dp e2) ry
          have hn : a ≠ .none := fun z => by
            rw [toPy] at e1
            cases e3 : toPys xs with
            | none => rw [e3] at e1; cases e1
            | some zs => rw [e3] at e1; cases e1; cases z
          have hd : X.A.units + min a.depth b.depth < cLine := by
            have := SeqAt.depth_of_shaped hs.2
            have h2 : min a.depth b.depth ≤ a.depth := Nat.min_le_left _ _
            omega
          exact PySem.W.rcLt_alike a b X.A s v u as bs r1 r2 hs.1 hn hd X.prog X.w X.xe _ ⟨.bl _, H, I, rfl, q⟩
        · cases e
theorem or_le : OpR X (compareOp .LtE) (rCmp X.K G .le) := by
  intro pins s σ H x y v u Q I rx ry ⟨N, μ, dx, dy, k, hx, hy, e, q⟩
  cases dx <;> cases dy <;> try (simp [cmpO] at e; done)
  case int.int i j =>
    cases hx; cases hy; cases e
    exact op_le pins s σ H _ _ v u Q I rx ry ⟨i, j, rfl, rfl, q⟩
theorem or_gt : OpR X (compareOp .Gt) (rCmp X.K G .gt) := by
  intro pins s σ H x y v u Q I rx ry ⟨N, μ, dx, dy, k, hx, hy, e, q⟩
  cases dx <;> cases dy <;> try (simp [cmpO] at e; done)
  case int.int i j =>
    cases hx; cases hy; cases e
    exact op_gt pins s σ H _ _ v u Q I rx ry ⟨i, j, rfl, rfl, q⟩
theorem or_ge : OpR X (compareOp .GtE) (rCmp X.K G .ge) := by
  intro pins s σ H x y v u Q I rx ry ⟨N, μ, dx, dy, k, hx, hy, e, q⟩
  cases dx <;> cases dy <;> try (simp [cmpO] at e; done)
  case int.int i j =>
    cases hx; cases hy; cases e
    exact op_ge pins s σ H _ _ v u Q I rx ry ⟨i, j, rfl, rfl, q⟩
theorem isO_cases {dx dy : D} {k : Bool} (h : isO dx dy = some k) : (dy = .non ∧ (dx = .non ∧ k = true ∨ (∃ b, dx = .bl b) ∧ k = false ∨ (∃ i, dx = .int i) ∧ k = false ∨ (∃ x, dx = .str x) ∧ k = false ∨ (∃ xs, dx = .tup xs) ∧ k = false ∨ (∃ xs, dx = .lst xs) ∧ k = false)) ∨ ∃ a b, dx = .bl a ∧ dy = .bl b ∧ k = decide (a = b) := by
  cases dx <;> cases dy <;> simp_all [isO]
theorem is_non {K : PySem.W.Frag} {G : Gx} {N : Addr → Prop} {μ : List Addr} {H : Hp} {x : V} {dx : D} {k : Bool} (hx : Rp K G N μ H x dx) (h : dx = .non ∧ k = true ∨ (∃ b, dx = .bl b) ∧ k = false ∨ (∃ i, dx = .int i) ∧ k = false ∨ (∃ x, dx = .str x) ∧ k = false ∨ (∃ xs, dx = .tup xs) ∧ k = false ∨ (∃ xs, dx = .lst xs) ∧ k = false) :
    decide (x = .non) = k := by
  rcases h with ⟨rfl, rfl⟩ | ⟨⟨_, rfl⟩, rfl⟩ | ⟨⟨_, rfl⟩, rfl⟩ | ⟨⟨_, rfl⟩, rfl⟩ | ⟨⟨_, rfl⟩, rfl⟩ | ⟨⟨_, rfl⟩, rfl⟩ <;> cases hx <;> rfl
theorem or_is : OpR X (compareOp .Is) (rCmp X.K G .is) := by
  intro pins s σ H x y v u Q I rx ry ⟨N, μ, dx, dy, k, hx, hy, e, q⟩
  replace e : isO dx dy = some k := e
  rcases isO_cases e with ⟨rfl, h⟩ | ⟨a, b, rfl, rfl, rfl⟩
  · cases hy
    exact op_isN pins s σ H _ _ v u Q I rx ry ⟨rfl, by rw [is_non hx h]; exact q⟩
  · cases hx; cases hy
    exact op_is_bl pins s σ H _ _ v u Q I rx ry ⟨a, b, rfl, rfl, q⟩
theorem or_isnot : OpR X (compareOp .IsNot) (rCmp X.K G .isNot) := by
  intro pins s σ H x y v u Q I rx ry ⟨N, μ, dx, dy, k, hx, hy, e, q⟩
  replace e : (isO dx dy).map (!·) = some k := e
  cases e2 : isO dx dy with
  | none => rw [e2] at e; cases e
  | some k' =>
    rw [e2] at e
    cases e
    rcases isO_cases e2 with ⟨rfl, h⟩ | ⟨a, b, rfl, rfl, rfl⟩
    · cases hy
      exact op_notN pins s σ H _ _ v u Q I rx ry ⟨rfl, by rw [is_non hx h]; exact q⟩
    · cases hx; cases hy
      exact op_isnot_bl pins s σ H _ _ v u Q I rx ry ⟨a, b, rfl, rfl, q⟩
end
end Iv
/-! Iv3: expressions. -/
namespace Iv
open PySem PySem.Spec PyProof.Rows L2
/-- what a body's context must give -/
structure Bx (X : Cx) (W : WX) (k : Nat) : Prop where
  calm : X.calm = true
  nd : X.N.Nodup
  tk : L2N.Takes X W
  pass : PassesOwn (model X.prog X.w) X.A X.env X.xe
  room : Room k X.A
section
variable {X : Cx} {G : Gx} {W : WX} {n k : Nat} {pos : Pos} {a b c e : Expr} {es : List Expr} {ia ib ic ie : Ex} {ies : Exs}
/-! ### names, constants -/
theorem e_int {i : Int} {j : Nat} : PE X (.Constant (.int i) j pos) (tE X.K G W n (.lit (.int i))) := pe_int.imp fun _ _ _ ⟨_, _, _, _, _, rel, h⟩ => End.fin h rel (Same.refl _) (.int i)
theorem e_bl {i : Bool} {j : Nat} : PE X (.Constant (.bool i) j pos) (tE X.K G W n (.lit (.bl i))) := pe_bl.imp fun _ _ _ ⟨_, _, _, _, _, rel, h⟩ => End.fin h rel (Same.refl _) (.bl i)
theorem e_non {j : Nat} : PE X (.Constant .none j pos) (tE X.K G W n (.lit .non)) := pe_non.imp fun _ _ _ ⟨_, _, _, _, _, rel, h⟩ => End.fin h rel (Same.refl _) .non
theorem e_str {x : Str} {j : Nat} : PE X (.Constant (.str x) j pos) (tE X.K G W n (.lit (.str x))) := pe_str.imp fun _ _ _ ⟨_, _, _, _, _, rel, h⟩ => End.fin h rel (Same.refl _) (.str x)
theorem e_glob {x : Str} {v : V} {u : Value} {d : D} (hg : Gl X x) (hm : X.mg x = some u) (r : RelV v u) (hd : ∀ N μ H, Rp X.K G N μ H v d) (hdb : (x == ("__debug__" : Str)) = false := by decide) : PE X (.Name x pos) (tE X.K G W n (.lit d)) :=
  (pe_glob hg hm r hdb).imp fun _ _ _ ⟨_, _, _, _, _, rel, h⟩ => End.fin h rel (Same.refl _) (hd _ _ _)
theorem slot_val {ρ : Env} {i : Nat} {d : D} (h : slotD ρ i = some d) : ρ[i]? = some (.val d) := by
  unfold slotD at h
  cases e : ρ[i]? with
  | none => rw [e] at h; cases h
  | some s => rw [e] at h; cases s <;> first | (cases h; rfl) | cases h
theorem slot_own {ρ : Env} {i : Nat} {d : List D} (h : slotO ρ i = some d) : ρ[i]? = some (.own d) := by
  unfold slotO at h
  cases e : ρ[i]? with
  | none => rw [e] at h; cases h
  | some s => rw [e] at h; cases s <;> first | (cases h; rfl) | cases h
theorem e_var {i : Nat} {x : Str} (hN : X.N[i]? = some x) (hv : Vis X.env.scope x) (hd : (x == ("__debug__" : Str)) = false := by decide) (hcd : (x == ("__classdict__" : Str)) = false := by decide) : PE X (.Name x pos) (tE X.K G W n (.var i)) := by
  refine (pe_var hN hv hd hcd).imp fun σ H Q ⟨fr, μ, O, ρ, S, rel, h⟩ => ?_
  obtain ⟨d, e, h⟩ := End.of_some (o := slotD ρ i) h
  obtain ⟨v, e1, r⟩ := rel.env i _ (slot_val e)
  exact ⟨v, e1, End.fin h rel (Same.refl _) r⟩
/-! ### parts -/
theorem a_nil : PA X [] (tA X.K G W n .nil) := pa_nil.imp fun _ _ _ ⟨_, _, _, _, _, rel, h⟩ => End.fin h rel (Same.refl _) .nil
theorem a_cons (ha : PE X e (tE X.K G W n ie)) (hr : PA X es (tA X.K G W n ies)) (hs : starEach (e :: es) X.env = (false, eval e X.env) :: starEach es X.env := by rfl) : PA X (e :: es) (tA X.K G W n (.cons ie ies)) := by
  refine (pa_cons ha hr hs).imp fun σ H Q ⟨fr, μ, O, ρ, S, rel, h⟩ => ?_
  refine ⟨fr, μ, O, ρ, S, rel, (End.bind (RR := Rp X.K G) h).mono fun v H1 ⟨d, S1, μ1, s1, rel1, r1, h1⟩ => ?_⟩
  refine ⟨fr, μ1, O, ρ, S1, rel1, (End.bind (RR := Rps X.K G) h1).mono fun vs H2 ⟨ds, S2, μ2, s2, rel2, r2, h2⟩ => ?_⟩
  exact End.fin h2 rel2 (Same.refl _) (.cons (r1.step s2) r2)
theorem e_tup {x1 : Nat} (h : PA X es (tA X.K G W n ies)) : PE X (.Tuple es x1 pos) (tE X.K G W n (.tup ies)) := by
  refine (pe_tup h).imp fun σ H Q ⟨fr, μ, O, ρ, S, rel, h⟩ => ?_
  refine ⟨fr, μ, O, ρ, S, rel, (End.bind (RR := Rps X.K G) h).mono fun vs H1 ⟨ds, S1, μ1, s1, rel1, r1, h1⟩ => ?_⟩
  split at h1
  · rename_i hl
    exact ⟨by rw [r1.length, ← big_eq]; exact hl, fun p hp => End.fin h1 rel1 (same_upd hp) (Rp.newT rel1.nt hp r1)⟩
  · exact h1.elim
theorem e_lst (h : PA X es (tA X.K G W n ies)) : PE X (.List es pos) (tE X.K G W n (.lst ies)) := by
  refine (pe_lst h).imp fun σ H Q ⟨fr, μ, O, ρ, S, rel, h⟩ => ?_
  refine ⟨fr, μ, O, ρ, S, rel, (End.bind (RR := Rps X.K G) h).mono fun vs H1 ⟨ds, S1, μ1, s1, rel1, r1, h1⟩ => ?_⟩
  split at h1
  · rename_i hl
    exact ⟨by rw [r1.length, ← big_eq]; exact hl, fun p hp => End.fin h1 rel1 (same_upd hp) (Rp.newL rel1.nt hp r1)⟩
  · exact h1.elim
/-! ### operators -/
theorem e_bin {op : Operator} {o : BOp} (ho : OpR X (binaryOp op) (rBin X.K G o)) (ha : PE X a (tE X.K G W n ia)) (hb : PE X b (tE X.K G W n ib)) : PE X (.BinOp a op b pos) (tE X.K G W n (.bin o ia ib)) := by
  refine (pe_op ho ha hb).imp fun σ H Q ⟨fr, μ, O, ρ, S, rel, h⟩ => ?_
  refine ⟨fr, μ, O, ρ, S, rel, (End.bind (RR := Rp X.K G) h).mono fun x H1 ⟨dx, S1, μ1, s1, rel1, r1, h1⟩ => ?_⟩
  refine ⟨fr, μ1, O, ρ, S1, rel1, (End.bind (RR := Rp X.K G) h1).mono fun y H2 ⟨dy, S2, μ2, s2, rel2, r2, h2⟩ => ?_⟩
  obtain ⟨d, e, h2⟩ := End.of_some h2
  exact ⟨_, μ2, dx, dy, d, rel2.nt, r1.step s2, r2, e, fun v H' s q => End.fin h2 rel2 s q⟩
theorem e_neg (ha : PE X a (tE X.K G W n ia)) : PE X (.UnaryOp .USub a pos) (tE X.K G W n (.neg ia)) := by
  refine (pe_un un_neg ha).imp fun σ H Q ⟨fr, μ, O, ρ, S, rel, h⟩ => ?_
  refine ⟨fr, μ, O, ρ, S, rel, (End.bind (RR := Rp X.K G) h).mono fun x H1 ⟨dx, S1, μ1, s1, rel1, r1, h1⟩ => ?_⟩
  cases dx <;> try exact h1.elim
  cases r1
  exact ⟨_, rfl, End.fin h1 rel1 (Same.refl _) (.int _)⟩
theorem tru_of {K : PySem.W.Frag} {N : Addr → Prop} {μ : List Addr} {H : Hp} {x : V} {d : D} {k : Bool} (r : Rp K G N μ H x d) (h : truth d = some k) : TruV K x H k := by
  cases d <;> try (cases h; done)
  case non => cases r; cases h; rfl
  case bl b => cases r; cases h; rfl
  case int i => cases r; cases h; rfl
  case tup xs =>
    obtain ⟨a, vs, rfl, h1, q⟩ := r.tup_of
    cases h
    refine .inr (.inl ⟨vs, h1, ?_⟩)
    cases q <;> rfl
  case lst xs =>
    obtain ⟨a, vs, rfl, h1, q⟩ := r.lst_of
    cases h
    refine .inl ⟨vs, h1, ?_⟩
    cases q <;> rfl
theorem e_not (ha : PE X a (tE X.K G W n ia)) : PE X (.UnaryOp .Not a pos) (tE X.K G W n (.not ia)) := by
  refine (pe_notT ha).imp fun σ H Q ⟨fr, μ, O, ρ, S, rel, h⟩ => ?_
  refine ⟨fr, μ, O, ρ, S, rel, (End.bind (RR := Rp X.K G) h).mono fun x H1 ⟨dx, S1, μ1, s1, rel1, r1, h1⟩ => ?_⟩
  cases e : truth dx with
  | none => rw [e] at h1; exact h1.elim
  | some k =>
    rw [e] at h1
    exact ⟨k, tru_of r1 e, End.fin h1 rel1 (Same.refl _) (.bl _)⟩
theorem e_and {rest : List Expr} (ha : PE X a (tE X.K G W n ia)) (hb : PE X (.BoolOp .And (b :: rest) pos) (tE X.K G W n ib)) : PE X (.BoolOp .And (a :: b :: rest) pos) (tE X.K G W n (.and ia ib)) := by
  refine (pe_andT ha hb).imp fun σ H Q ⟨fr, μ, O, ρ, S, rel, h⟩ => ?_
  refine ⟨fr, μ, O, ρ, S, rel, (End.bind (RR := Rp X.K G) h).mono fun x H1 ⟨dx, S1, μ1, s1, rel1, r1, h1⟩ => ?_⟩
  cases e : truth dx with
  | none => rw [e] at h1; exact h1.elim
  | some k =>
    rw [e] at h1
    refine ⟨k, tru_of r1 e, ?_⟩
    cases k with
    | true => exact ⟨fr, μ1, O, ρ, S1, rel1, h1⟩
    | false => exact End.fin h1 rel1 (Same.refl _) r1
theorem e_or {rest : List Expr} (ha : PE X a (tE X.K G W n ia)) (hb : PE X (.BoolOp .Or (b :: rest) pos) (tE X.K G W n ib)) : PE X (.BoolOp .Or (a :: b :: rest) pos) (tE X.K G W n (.or ia ib)) := by
  refine (pe_orT ha hb).imp fun σ H Q ⟨fr, μ, O, ρ, S, rel, h⟩ => ?_
  refine ⟨fr, μ, O, ρ, S, rel, (End.bind (RR := Rp X.K G) h).mono fun x H1 ⟨dx, S1, μ1, s1, rel1, r1, h1⟩ => ?_⟩
  cases e : truth dx with
  | none => rw [e] at h1; exact h1.elim
  | some k =>
    rw [e] at h1
    refine ⟨k, tru_of r1 e, ?_⟩
    cases k with
    | true => exact End.fin h1 rel1 (Same.refl _) r1
    | false => exact ⟨fr, μ1, O, ρ, S1, rel1, h1⟩
/-- the last of an and, an or -/
theorem e_one {op} (h : PE X a (tE X.K G W n ia)) : PE X (.BoolOp op [a] pos) (tE X.K G W n ia) := pe_one h
/-! ### comparisons -/
theorem e_cmp {op : CmpOp} {o : COp} (ho : OpR X (compareOp op) (rCmp X.K G o)) (ha : PE X a (tE X.K G W n ia)) (hb : PE X b (tE X.K G W n ib)) (hm : behindInMarks op b = false) : PE X (.Compare a [op] [b] pos) (tE X.K G W n (.cmp o ia ib)) := by
  refine (pe_cmpR ho ha hb hm).imp fun σ H Q ⟨fr, μ, O, ρ, S, rel, h⟩ => ?_
  refine ⟨fr, μ, O, ρ, S, rel, (End.bind (RR := Rp X.K G) h).mono fun x H1 ⟨dx, S1, μ1, s1, rel1, r1, h1⟩ => ?_⟩
  refine ⟨fr, μ1, O, ρ, S1, rel1, (End.bind (RR := Rp X.K G) h1).mono fun y H2 ⟨dy, S2, μ2, s2, rel2, r2, h2⟩ => ?_⟩
  cases e : cmpO o dx dy with
  | none => rw [e] at h2; exact h2.elim
  | some k =>
    rw [e] at h2
    exact ⟨_, μ2, dx, dy, k, r1.step s2, r2, e, End.fin h2 rel2 (Same.refl _) (.bl k)⟩
theorem chain_read {o1 o2 : COp} {σ : St} {H : Hp} {Q : VK} (h : tE X.K G W n (.chain o1 o2 ia ib ic) σ H Q) :
    tChain (rCmp X.K G o1) (rCmp X.K G o2) (tE X.K G W n ia) (tE X.K G W n ib) (tE X.K G W n ic) σ H Q := by
  obtain ⟨fr, μ, O, ρ, S, rel, h⟩ := h
  refine ⟨fr, μ, O, ρ, S, rel, (End.bind (RR := Rp X.K G) h).mono fun x H1 ⟨dx, S1, μ1, s1, rel1, r1, h1⟩ => ?_⟩
  refine ⟨fr, μ1, O, ρ, S1, rel1, (End.bind (RR := Rp X.K G) h1).mono fun y H2 ⟨dy, S2, μ2, s2, rel2, r2, h2⟩ => ?_⟩
  cases e : cmpO o1 dx dy with
  | none => rw [e] at h2; exact h2.elim
  | some k =>
    rw [e] at h2
    refine ⟨_, μ2, dx, dy, k, r1.step s2, r2, e, k, rfl, ?_⟩
    cases k with
    | false => exact End.fin h2 rel2 (Same.refl _) (.bl false)
    | true =>
      refine ⟨fr, μ2, O, ρ, S2, rel2, (End.bind (RR := Rp X.K G) h2).mono fun z H3 ⟨dz, S3, μ3, s3, rel3, r3, h3⟩ => ?_⟩
      cases e2 : cmpO o2 dy dz with
      | none => rw [e2] at h3; exact h3.elim
      | some k =>
        rw [e2] at h3
        exact ⟨_, μ3, dy, dz, k, r2.step s3, r3, e2, End.fin h3 rel3 (Same.refl _) (.bl k)⟩
theorem e_chain {op op' : CmpOp} {o1 o2 : COp} (ho : OpR X (compareOp op) (rCmp X.K G o1)) (ho' : OpR X (compareOp op') (rCmp X.K G o2)) (ha : PE X a (tE X.K G W n ia)) (hb : PE X b (tE X.K G W n ib)) (hc : PE X c (tE X.K G W n ic))
    (hm : lastMarks [op, op'] [b, c] = false := by with_unfolding_all rfl) : PE X (.Compare a [op, op'] [b, c] pos) (tE X.K G W n (.chain o1 o2 ia ib ic)) := (pe_chain ho ho' ha hb hc hm).imp fun _ _ _ h => chain_read h
/-! ### tests -/
theorem tT_of {σ : St} {H : Hp} {Q : Bool → Hp → Prop} (h : tT X.K G W n ie σ H Q) : tE X.K G W n ie σ H fun x H' => ∃ k, TruV X.K x H' k ∧ (∀ b, x = .bl b → k = b) ∧ Q k H' := by
  obtain ⟨fr, μ, O, ρ, S, rel, h⟩ := h
  refine ⟨fr, μ, O, ρ, S, rel, (End.bind (RR := Rp X.K G) h).mono fun x H1 ⟨dx, S1, μ1, s1, rel1, r1, h1⟩ => ?_⟩
  cases e : truth dx with
  | none => rw [e] at h1; exact h1.elim
  | some k =>
    rw [e] at h1
    refine ⟨k, tru_of r1 e, fun b hb => ?_, End.fin h1 rel1 (Same.refl _) rfl⟩
    subst hb
    have q := tru_of r1 e
    exact q
theorem t_val (h : PE X e (tE X.K G W n ie)) (he : ∀ whole, isTrue e X.env whole = (do let v ← whole; standAt e.pos; holding [v] (truthy v)) := by intro _; rfl) : PT X e (tT X.K G W n ie) :=
  (pt_truth h he).imp fun σ H Q hw => by
    obtain ⟨fr, μ, O, ρ, S, rel, q⟩ := tT_of hw
    exact ⟨fr, μ, O, ρ, S, rel, q.mono fun x H' ⟨k, t, _, z⟩ => ⟨k, t, z⟩⟩
theorem cmp_bool {o : COp} {σ : St} {H : Hp} {Q : VK} (h : tOp (rCmp X.K G o) (tE X.K G W n ia) (tE X.K G W n ib) σ H Q) : tOp (rCmp X.K G o) (tE X.K G W n ia) (tE X.K G W n ib) σ H fun x H' => (∃ k, x = .bl k) ∧ Q x H' := by
  obtain ⟨fr, μ, O, ρ, S, rel, h⟩ := h
  refine ⟨fr, μ, O, ρ, S, rel, h.mono fun x H1 ⟨fr, μ, O, ρ, S, rel, h⟩ => ⟨fr, μ, O, ρ, S, rel, h.mono fun y H2 ⟨N, μ, dx, dy, k, h1, h2, h3, q⟩ => ⟨N, μ, dx, dy, k, h1, h2, h3, ⟨k, rfl⟩, q⟩⟩⟩
theorem t_cmp {op : CmpOp} {o : COp} (ho : OpR X (compareOp op) (rCmp X.K G o)) (ha : PE X a (tE X.K G W n ia)) (hb : PE X b (tE X.K G W n ib)) (hm : behindInMarks op b = false) : PT X (.Compare a [op] [b] pos) (tT X.K G W n (.cmp o ia ib)) := by
  refine (pt_cmpR ho ha hb hm).imp fun σ H Q hw => ?_
  obtain ⟨fr, μ, O, ρ, S, rel, h⟩ := tT_of hw
  refine ⟨fr, μ, O, ρ, S, rel, (End.bind (RR := Rp X.K G) h).mono fun x H1 ⟨dx, S1, μ1, s1, rel1, r1, h1⟩ => ?_⟩
  refine ⟨fr, μ1, O, ρ, S1, rel1, (End.bind (RR := Rp X.K G) h1).mono fun y H2 ⟨dy, S2, μ2, s2, rel2, r2, h2⟩ => ?_⟩
  cases e : cmpO o dx dy with
  | none => rw [e] at h2; exact h2.elim
  | some k =>
    rw [e] at h2
    obtain ⟨k', _, hb, q⟩ := End.fin h2 rel2 (Same.refl _) (.bl k)
    cases hb k rfl
    exact ⟨_, μ2, dx, dy, k, r1.step s2, r2, e, k, rfl, q⟩
theorem t_chain {op op' : CmpOp} {o1 o2 : COp} (ho : OpR X (compareOp op) (rCmp X.K G o1)) (ho' : OpR X (compareOp op') (rCmp X.K G o2)) (ha : PE X a (tE X.K G W n ia)) (hb : PE X b (tE X.K G W n ib)) (hc : PE X c (tE X.K G W n ic))
    (hm : lastMarks [op, op'] [b, c] = false := by with_unfolding_all rfl) : PT X (.Compare a [op, op'] [b, c] pos) (tT X.K G W n (.chain o1 o2 ia ib ic)) := by
  refine (pt_chain ho ho' ha hb hc hm).imp fun σ H Q hw => ?_
  have h := chain_read (tT_of hw)
  obtain ⟨fr, μ, O, ρ, S, rel, h⟩ := h
  refine ⟨fr, μ, O, ρ, S, rel, h.mono fun x H1 ⟨fr, μ, O, ρ, S, rel, h⟩ => ⟨fr, μ, O, ρ, S, rel, h.mono fun y H2 ⟨N, μ, dx, dy, k, h1, h2, h3, k', e, q⟩ => ⟨N, μ, dx, dy, k, h1, h2, h3, k', e, ?_⟩⟩⟩
  cases k' with
  | false =>
    obtain ⟨k2, _, hb, q⟩ := q
    cases hb false rfl
    exact ⟨_, rfl, q⟩
  | true =>
    obtain ⟨fr, μ, O, ρ, S, rel, h⟩ := q
    refine ⟨fr, μ, O, ρ, S, rel, h.mono fun z H3 ⟨N, μ, dx, dy, k, h1, h2, h3, k2, _, hb, q⟩ => ⟨N, μ, dx, dy, k, h1, h2, h3, k, rfl, ?_⟩⟩
    cases hb k rfl
    exact q
/-- a test's reading is the value's by truth -/
theorem tT_bind {ic : Ex} {γ δ : Type} {R2 : (Addr → Prop) → List Addr → Hp → δ → γ → Prop} {f : Bool → Store → Rs γ} {fr : Fr} {μ O : List Addr} {H : Hp} {σ : St} {ρ : Env} {S : Store} {Q : δ → Hp → Prop} (rel : Rel X.K G fr μ O H σ ρ S)
    (h : End X.K G W R2 fr μ O H σ ρ ((evt G n ic ρ S).bind f) Q) :
    tT X.K G W n ic σ H fun b H1 => ∃ S1 μ1, Step μ O H μ1 O H1 ∧ Rel X.K G fr μ1 O H1 σ ρ S1 ∧ End X.K G W R2 fr μ1 O H1 σ ρ (f b S1) Q :=
  ⟨fr, μ, O, ρ, S, rel, (End.bind (RR := RId) h).mono fun b H1 ⟨d, S1, μ1, s1, rel1, r1, h1⟩ => by cases r1; exact ⟨S1, μ1, s1, rel1, h1⟩⟩
theorem evt_eq {ρ : Env} {S : Store} : evt G n ic ρ S = (ev G n ic ρ S).bind fun d S1 => match truth d with | some b => .ok b S1 | none => .bad := rfl
theorem t_not (ha : PT X a (tT X.K G W n ia)) : PT X (.UnaryOp .Not a pos) (tT X.K G W n (.not ia)) := by
  refine (pt_not ha).imp fun σ H Q ⟨fr, μ, O, ρ, S, rel, h⟩ => ?_
  refine ⟨fr, μ, O, ρ, S, rel, ?_⟩
  have e : evt G n (.not ia) ρ S = (evt G n ia ρ S).bind fun b S1 => .ok (!b) S1 := by
    show ((ev G n ia ρ S).bind _).bind _ = ((ev G n ia ρ S).bind _).bind _
    cases ev G n ia ρ S with
    | ok d S1 => show Rs.bind (match truth d with | some b => _ | none => _) _ = Rs.bind (match truth d with | some b => _ | none => _) _; cases truth d <;> rfl
    | exc c S1 => rfl
    | bad => rfl
  rw [e] at h
  exact (End.bind (RR := RId) h).mono fun b H1 ⟨d, S1, μ1, s1, rel1, r1, h1⟩ => by cases r1; exact End.fin h1 rel1 (Same.refl _) rfl
theorem e_ite (hc : PT X c (tT X.K G W n ic)) (ha : PE X a (tE X.K G W n ia)) (hb : PE X b (tE X.K G W n ib)) : PE X (.IfExp c a b pos) (tE X.K G W n (.ite ic ia ib)) := by
  refine (pe_ifExp hc ha hb).imp fun σ H Q ⟨fr, μ, O, ρ, S, rel, h⟩ => ?_
  have e : ev G n (.ite ic ia ib) ρ S = (evt G n ic ρ S).bind fun k S1 => if k = true then ev G n ia ρ S1 else ev G n ib ρ S1 := by
    show (ev G n ic ρ S).bind _ = ((ev G n ic ρ S).bind _).bind _
    cases ev G n ic ρ S with
    | ok d S1 =>
      show (match truth d with | some true => _ | some false => _ | none => _) = Rs.bind (match truth d with | some b => _ | none => _) _
      cases truth d with
      | none => rfl
      | some k => cases k <;> rfl
    | exc c S1 => rfl
    | bad => rfl
  rw [e] at h
  obtain ⟨fr', μ', O', ρ', S', rel', h⟩ := tT_bind rel h
  refine ⟨fr', μ', O', ρ', S', rel', h.mono fun k H1 ⟨S1, μ1, s1, rel1, h1⟩ => ?_⟩
  cases k with
  | true => exact ⟨fr, μ1, O, ρ, S1, rel1, h1⟩
  | false => exact ⟨fr, μ1, O, ρ, S1, rel1, h1⟩
theorem w_one_and (ha : PT X a (tT X.K G W n ia)) : PW X (.BoolOp .And [a] pos) (tT X.K G W n ia) := pw_and1 ha
theorem w_one_or (ha : PT X a (tT X.K G W n ia)) : PW X (.BoolOp .Or [a] pos) (tT X.K G W n ia) := pw_or1 ha
theorem _root_.L2.PW.imp {t t' : TT} (h : PW X e t) (hi : ∀ σ H Q, t' σ H Q → t σ H Q) : PW X e t' := ⟨fun wh pins s σ H Q I w => h.run wh pins s σ H Q I (hi σ H Q w)⟩
theorem w_and {rest : List Expr} (ha : PT X a (tT X.K G W n ia)) (hb : PW X (.BoolOp .And (b :: rest) pos) (tT X.K G W n ib)) : PW X (.BoolOp .And (a :: b :: rest) pos) (tT X.K G W n (.and ia ib)) := by
  refine L2.PW.imp (pw_and ha hb) fun σ H Q ⟨fr, μ, O, ρ, S, rel, h⟩ => ?_
  have e : evt G n (.and ia ib) ρ S = (evt G n ia ρ S).bind fun k S1 => if k = true then evt G n ib ρ S1 else .ok false S1 := by
    show ((ev G n ia ρ S).bind _).bind _ = ((ev G n ia ρ S).bind _).bind _
    cases ev G n ia ρ S with
    | ok d S1 =>
      show Rs.bind (match truth d with | some true => _ | some false => _ | none => _) _ = Rs.bind (match truth d with | some b => _ | none => _) _
      cases e : truth d with
      | none => rfl
      | some k =>
        cases k with
        | true => rfl
        | false => show (match truth d with | some b => _ | none => _) = _; rw [e]; rfl
    | exc c S1 => rfl
    | bad => rfl
  rw [e] at h
  obtain ⟨fr', μ', O', ρ', S', rel', h⟩ := tT_bind rel h
  refine ⟨fr', μ', O', ρ', S', rel', h.mono fun k H1 ⟨S1, μ1, s1, rel1, h1⟩ => ?_⟩
  cases k with
  | true => exact ⟨fr, μ1, O, ρ, S1, rel1, h1⟩
  | false => exact End.fin h1 rel1 (Same.refl _) rfl
theorem w_or {rest : List Expr} (ha : PT X a (tT X.K G W n ia)) (hb : PW X (.BoolOp .Or (b :: rest) pos) (tT X.K G W n ib)) : PW X (.BoolOp .Or (a :: b :: rest) pos) (tT X.K G W n (.or ia ib)) := by
  refine L2.PW.imp (pw_or ha hb) fun σ H Q ⟨fr, μ, O, ρ, S, rel, h⟩ => ?_
  have e : evt G n (.or ia ib) ρ S = (evt G n ia ρ S).bind fun k S1 => if k = true then .ok true S1 else evt G n ib ρ S1 := by
    show ((ev G n ia ρ S).bind _).bind _ = ((ev G n ia ρ S).bind _).bind _
    cases ev G n ia ρ S with
    | ok d S1 =>
      show Rs.bind (match truth d with | some true => _ | some false => _ | none => _) _ = Rs.bind (match truth d with | some b => _ | none => _) _
      cases e : truth d with
      | none => rfl
      | some k =>
        cases k with
        | false => rfl
        | true => show (match truth d with | some b => _ | none => _) = _; rw [e]; rfl
    | exc c S1 => rfl
    | bad => rfl
  rw [e] at h
  obtain ⟨fr', μ', O', ρ', S', rel', h⟩ := tT_bind rel h
  refine ⟨fr', μ', O', ρ', S', rel', h.mono fun k H1 ⟨S1, μ1, s1, rel1, h1⟩ => ?_⟩
  cases k with
  | false => exact ⟨fr, μ1, O, ρ, S1, rel1, h1⟩
  | true => exact End.fin h1 rel1 (Same.refl _) rfl
end
end Iv
/-! Iv4: built-in functions, subscripts. -/
namespace Iv
open PySem PySem.Spec PyProof.Rows L2
/-! ### sorting by insertion is sorting -/
section
open PySem.W
variable {α : Type} {le : α → α → Bool}
theorem insBy_perm (x : α) : ∀ l : List α, (insBy le x l).Perm (x :: l)
  | [] => .refl _
  | y :: ys => by
    unfold insBy
    split
    · exact .refl _
    · exact (List.Perm.cons y (insBy_perm x ys)).trans (List.Perm.swap x y ys)
theorem sortBy_perm : ∀ l : List α, (sortBy le l).Perm l
  | [] => .refl _
  | x :: xs => (insBy_perm x _).trans (List.Perm.cons x (sortBy_perm xs))
theorem insBy_pair (h : TotalLe le) (x : α) : ∀ l : List α, l.Pairwise (fun a b => le a b = true) → (insBy le x l).Pairwise (fun a b => le a b = true)
  | [], _ => List.pairwise_singleton _ _
  | y :: ys, hp => by
    obtain ⟨h1, h2⟩ := List.pairwise_cons.mp hp
    unfold insBy
    by_cases hx : le x y = true
    · rw [if_pos hx]
      refine List.pairwise_cons.mpr ⟨fun z hz => ?_, hp⟩
      rcases List.mem_cons.mp hz with rfl | hz
      · exact hx
      · exact h.trans _ _ _ hx (h1 z hz)
    · rw [if_neg hx]
      refine List.pairwise_cons.mpr ⟨fun z hz => ?_, insBy_pair h x ys h2⟩
      rcases List.mem_cons.mp ((insBy_perm x ys).mem_iff.mp hz) with rfl | hz
      · exact (h.total z y).resolve_left hx
      · exact h1 z hz
theorem sortBy_pair (h : TotalLe le) : ∀ l : List α, (sortBy le l).Pairwise (fun a b => le a b = true)
  | [] => .nil
  | x :: xs => insBy_pair h x _ (sortBy_pair h xs)
theorem insBy_rank (h : TotalLe le) (c x : α) : ∀ l : List α, (insBy le x l).filter (sameRank le c) = (x :: l).filter (sameRank le c)
  | [] => rfl
  | y :: ys => by
    unfold insBy
    by_cases hx : le x y = true
    · rw [if_pos hx]
    · rw [if_neg hx]
      have ih := insBy_rank h c x ys
      by_cases h1 : sameRank le c x = true
      · have h2 : ¬ sameRank le c y = true := fun z => by
          unfold sameRank at h1 z
          rw [Bool.and_eq_true] at h1 z
          exact hx (h.trans _ _ _ h1.2 z.1)
        rw [List.filter_cons_of_neg h2, ih, List.filter_cons_of_pos h1, List.filter_cons_of_pos h1, List.filter_cons_of_neg h2]
      · by_cases h2 : sameRank le c y = true
        · rw [List.filter_cons_of_pos h2, ih, List.filter_cons_of_neg h1, List.filter_cons_of_neg h1, List.filter_cons_of_pos h2]
        · rw [List.filter_cons_of_neg h2, ih, List.filter_cons_of_neg h1, List.filter_cons_of_neg h1, List.filter_cons_of_neg h2]
theorem sortBy_rank (h : TotalLe le) (c : α) : ∀ l : List α, (sortBy le l).filter (sameRank le c) = l.filter (sameRank le c)
  | [] => rfl
  | x :: xs => by
    show (insBy le x (sortBy le xs)).filter _ = _
    rw [insBy_rank h, List.filter_cons, List.filter_cons, sortBy_rank h c xs]
theorem sortBy_merge (h : TotalLe le) (l : List α) : l.mergeSort le = sortBy le l := (sort_unique h (sortBy_pair h l) fun c => sortBy_rank h c l).symm
theorem leD_eq : leD = dataLe false pyD := by
  funext a b
  rw [dataLe_eq]
  rfl
theorem leD_total : TotalLe leD := by
  rw [leD_eq]
  exact sortLe_total _ _ _
theorem toPys_map : ∀ {xs : List D} {ps : List PyData}, toPys xs = some ps → ps = xs.map pyD ∧ ∀ x ∈ xs, toPy x = some (pyD x)
  | [], ps, h => by cases h; exact ⟨rfl, by simp⟩
  | x :: xs, ps, h => by
    rw [toPys] at h
    cases e1 : toPy x with
    | none => rw [e1] at h; cases h
    | some a =>
      rw [e1] at h
      cases e2 : toPys xs with
      | none => rw [e2] at h; cases h
      | some b =>
        rw [e2] at h
        cases h
        obtain ⟨h1, h2⟩ := toPys_map e2
        have ea : pyD x = a := by unfold pyD; rw [e1]
        refine ⟨by rw [List.map_cons, ea, h1], fun y hy => ?_⟩
        rcases List.mem_cons.mp hy with rfl | hy
        · rw [e1, ea]
        · exact h2 y hy
theorem sorts_alike {ps : List PyData} (h : sorts ps = true) : AllAlike ps ∧ Sortable ps ∧ ∀ p ∈ ps, SeqAt.shaped p = true := by
  unfold sorts at h
  rw [Bool.and_eq_true, List.all_eq_true, List.all_eq_true] at h
  obtain ⟨h1, h2⟩ := h
  have al : AllAlike ps := fun d hd d' hd' => List.all_eq_true.mp (h1 d hd) d' hd'
  have h3 : ∀ p ∈ ps, SeqAt.shaped p = true ∧ sortable1 p = true := fun p hp => by
    have := h2 p hp
    rw [Bool.and_eq_true] at this
    exact this
  refine ⟨al, ?_, fun p hp => (h3 p hp).1⟩
  by_cases ht : ∃ p ∈ ps, ∃ ys, p = .tuple ys
  · obtain ⟨p, hp, ys, rfl⟩ := ht
    refine .inl fun d hd => ?_
    have a := al _ hp d hd
    have s := (h3 d hd).2
    cases d <;> try (simp [alike] at a; done)
    case tuple zs =>
      cases zs with
      | nil => cases s
      | cons z zs => exact ⟨z, zs, rfl⟩
  · refine .inr fun d hd => ⟨fun z => ?_, fun xs z => ht ⟨d, hd, xs, z⟩⟩
    subst z
    have s := (h3 _ hd).2
    cases s
end
section
variable {K : PySem.W.Frag} {G : Gx} {N : Addr → Prop} {μ : List Addr} {H : Hp}
/-- values, places of the heap, data: item by item -/
def Tri (K : PySem.W.Frag) (G : Gx) (N : Addr → Prop) (μ : List Addr) (H : Hp) (u : Value) (d : D) : Prop := ∃ v, RelV v u ∧ Rp K G N μ H v d
theorem tri_of : ∀ {xs : List V} {us : List Value} {ds : List D}, Vals xs us → Rps K G N μ H xs ds → PySem.W.EachIs (Tri K G N μ H) us ds
  | [], _, _, .nil, .nil => .nil
  | _ :: _, _, _, .cons r rs, .cons q qs => .cons ⟨_, r, q⟩ (tri_of rs qs)
theorem of_tri : ∀ {us : List Value} {ds : List D}, PySem.W.EachIs (Tri K G N μ H) us ds → ∃ xs : List V, Vals xs us ∧ Rps K G N μ H xs ds
  | _, _, .nil => ⟨[], .nil, .nil⟩
  | _, _, .cons ⟨v, r, q⟩ h => by
    obtain ⟨xs, h1, h2⟩ := of_tri h
    exact ⟨v :: xs, .cons r h1, .cons q h2⟩
end
theorem each_mem {α β : Type} {R : α → β → Prop} : ∀ {as : List α} {bs : List β}, PySem.W.EachIs R as bs → PySem.W.EachIs (fun a b => R a b ∧ b ∈ bs) as bs
  | _, _, .nil => .nil
  | _, _, .cons (bs := bs) (b := b) r h => .cons ⟨r, List.mem_cons_self⟩ ((each_mem h).mono fun a c ⟨x, y⟩ => ⟨x, List.mem_cons_of_mem _ y⟩)
/-! ### built-in functions -/
def rBi (K : PySem.W.Frag) (G : Gx) (f : Bi) : List V → Hp → VK → Prop := fun xs H Q => ∃ N μ ds d, NT N H ∧ Rps K G N μ H xs ds ∧ biO f ds = some d ∧ ∀ v H', Same H H' → Rp K G N μ H' v d → Q v H'
section
variable {X : Cx} {G : Gx}
theorem arg1 {K : PySem.W.Frag} {N : Addr → Prop} {μ : List Addr} {H : Hp} {xs : List V} {d : D} (h : Rps K G N μ H xs [d]) : ∃ x, xs = [x] ∧ Rp K G N μ H x d := by
  cases h with
  | cons r h => cases h; exact ⟨_, rfl, r⟩
theorem arg2 {K : PySem.W.Frag} {N : Addr → Prop} {μ : List Addr} {H : Hp} {xs : List V} {d e : D} (h : Rps K G N μ H xs [d, e]) : ∃ x y, xs = [x, y] ∧ Rp K G N μ H x d ∧ Rp K G N μ H y e := by
  cases h with
  | cons r h =>
    cases h with
    | cons r2 h => cases h; exact ⟨_, _, rfl, r, r2⟩
theorem biO1 {f : Bi} {ds : List D} {d : D} (h : biO f ds = some d) (hf : f ≠ .max2 ∧ f ≠ .min2) : ∃ x, ds = [x] := by
  match ds, f, h with
  | [x], _, _ => exact ⟨x, rfl⟩
  | [], f, h => cases f <;> cases h
  | [a, b], f, h => cases f <;> first | (exact absurd rfl hf.1) | (exact absurd rfl hf.2) | (cases a <;> cases h) 
  | a :: b :: c :: r, f, h => cases f <;> (cases a <;> first | cases h | (cases b <;> cases h))
theorem cb_len : CallR X (.builtin "len") (rBi X.K G .len) := by
  intro pins s σ H xs us Q I r ⟨N, μ, ds, d, nt, hr, e, q⟩
  obtain ⟨x, rfl⟩ := biO1 e (by simp)
  obtain ⟨v, rfl, hx⟩ := arg1 hr
  cases x <;> try (cases e; done)
  case tup ys =>
    cases e
    obtain ⟨a, vs, rfl, h, qs⟩ := hx.tup_of
    exact call_len pins s σ H _ us Q I r ⟨_, ys.length, rfl, .inr ⟨vs, h, qs.length.symm⟩, q _ _ (Same.refl H) (.int _)⟩
  case lst ys =>
    cases e
    obtain ⟨a, vs, rfl, h, qs⟩ := hx.lst_of
    exact call_len pins s σ H _ us Q I r ⟨_, ys.length, rfl, .inl ⟨vs, h, qs.length.symm⟩, q _ _ (Same.refl H) (.int _)⟩
theorem cb_abs : CallR X (.builtin "abs") (rBi X.K G .abs) := by
  intro pins s σ H xs us Q I r ⟨N, μ, ds, d, nt, hr, e, q⟩
  obtain ⟨x, rfl⟩ := biO1 e (by simp)
  obtain ⟨v, rfl, hx⟩ := arg1 hr
  cases x <;> try (cases e; done)
  case int i => cases hx; cases e; exact call_abs pins s σ H _ us Q I r ⟨i, rfl, q _ _ (Same.refl H) (.int _)⟩
theorem cb_int : CallR X (.type "int") (rBi X.K G .int) := by
  intro pins s σ H xs us Q I r ⟨N, μ, ds, d, nt, hr, e, q⟩
  obtain ⟨x, rfl⟩ := biO1 e (by simp)
  obtain ⟨v, rfl, hx⟩ := arg1 hr
  cases x <;> try (cases e; done)
  case int i => cases hx; cases e; exact call_int1 pins s σ H _ us Q I r (.inl ⟨i, rfl, q _ _ (Same.refl H) (.int _)⟩)
theorem cb_bool : CallR X (.type "bool") (rBi X.K G .bool) := by
  intro pins s σ H xs us Q I r ⟨N, μ, ds, d, nt, hr, e, q⟩
  obtain ⟨x, rfl⟩ := biO1 e (by simp)
  obtain ⟨v, rfl, hx⟩ := arg1 hr
  cases x <;> try (cases e; done)
  case bl i => cases hx; cases e; exact call_bool1 pins s σ H _ us Q I r (.inr ⟨i, rfl, q _ _ (Same.refl H) (.bl _)⟩)
theorem call_strB : CallR X (.type "str") (fun xs H Q => ∃ b : Bool, xs = [.bl b] ∧ Q (.str (if b then "True" else "False")) H) := by
  intro pins s σ H xs us Q I r h
  obtain ⟨b, rfl, q⟩ := h
  obtain ⟨u, rfl, r1⟩ := vals1 r
  cases r1
  exact PySem.P.str_of_bool ⟨.str _, H, I.tok _, ⟨_, rfl⟩, q⟩
theorem cb_str : CallR X (.type "str") (rBi X.K G .str) := by
  intro pins s σ H xs us Q I r ⟨N, μ, ds, d, nt, hr, e, q⟩
  obtain ⟨x, rfl⟩ := biO1 e (by simp)
  obtain ⟨v, rfl, hx⟩ := arg1 hr
  cases x <;> try (cases e; done)
  case int i =>
    cases hx
    simp only [biO] at e
    split at e
    · rename_i hl
      cases e
      exact call_str_int pins s σ H _ us Q I r ⟨i, rfl, hl, q _ _ (Same.refl H) (.str _)⟩
    · cases e
  case bl b => cases hx; cases e; exact call_strB pins s σ H _ us Q I r ⟨b, rfl, q _ _ (Same.refl H) (.str _)⟩
theorem boolL_map {K : PySem.W.Frag} {N : Addr → Prop} {μ : List Addr} {H : Hp} : ∀ {ys : List D} {vs : List V} {bs : List Bool}, Rps K G N μ H vs ys → boolL ys = some bs → vs = bs.map V.bl ∧ ys = bs.map D.bl
  | [], _, _, .nil, h => by cases h; exact ⟨rfl, rfl⟩
  | y :: ys, _, _, .cons r rs, h => by
    cases y <;> try (cases h; done)
    case bl b =>
      cases r
      simp only [boolL] at h
      cases e : boolL ys with
      | none => rw [e] at h; cases h
      | some cs =>
        rw [e] at h
        cases h
        obtain ⟨h1, h2⟩ := boolL_map rs e
        exact ⟨by rw [List.map_cons, h1], by rw [List.map_cons, h2]⟩
theorem intL_map {K : PySem.W.Frag} {N : Addr → Prop} {μ : List Addr} {H : Hp} : ∀ {ys : List D} {vs : List V} {bs : List Int}, Rps K G N μ H vs ys → intL ys = some bs → vs = bs.map V.int ∧ ys = bs.map D.int
  | [], _, _, .nil, h => by cases h; exact ⟨rfl, rfl⟩
  | y :: ys, _, _, .cons r rs, h => by
    cases y <;> try (cases h; done)
    case int b =>
      cases r
      simp only [intL] at h
      cases e : intL ys with
      | none => rw [e] at h; cases h
      | some cs =>
        rw [e] at h
        cases h
        obtain ⟨h1, h2⟩ := intL_map rs e
        exact ⟨by rw [List.map_cons, h1], by rw [List.map_cons, h2]⟩
theorem map_some {α β : Type} {f : α → β} {o : Option α} {b : β} (h : o.map f = some b) : ∃ a, o = some a ∧ b = f a := by
  cases o with
  | none => cases h
  | some a => cases h; exact ⟨a, rfl, rfl⟩
theorem cb_all (hc : X.calm = true) : CallR X (.builtin "all") (rBi X.K G .all) := by
  intro pins s σ H xs us Q I r ⟨N, μ, ds, d, nt, hr, e, q⟩
  obtain ⟨x, rfl⟩ := biO1 e (by simp)
  obtain ⟨v, rfl, hx⟩ := arg1 hr
  cases x <;> try (cases e; done)
  case lst ys =>
    obtain ⟨bs, e1, rfl⟩ := map_some e
    obtain ⟨a, vs, rfl, h, qs⟩ := hx.lst_of
    obtain ⟨rfl, _⟩ := boolL_map qs e1
    exact cr_all hc pins s σ H _ us Q I r ⟨a, bs, rfl, h, q _ _ (Same.refl H) (.bl _)⟩
theorem cb_any (hc : X.calm = true) : CallR X (.builtin "any") (rBi X.K G .any) := by
  intro pins s σ H xs us Q I r ⟨N, μ, ds, d, nt, hr, e, q⟩
  obtain ⟨x, rfl⟩ := biO1 e (by simp)
  obtain ⟨v, rfl, hx⟩ := arg1 hr
  cases x <;> try (cases e; done)
  case lst ys =>
    obtain ⟨bs, e1, rfl⟩ := map_some e
    obtain ⟨a, vs, rfl, h, qs⟩ := hx.lst_of
    obtain ⟨rfl, _⟩ := boolL_map qs e1
    exact cr_any hc pins s σ H _ us Q I r ⟨a, bs, rfl, h, q _ _ (Same.refl H) (.bl _)⟩
theorem cb_sum (hc : X.calm = true) : CallR X (.builtin "sum") (rBi X.K G .sum) := by
  intro pins s σ H xs us Q I r ⟨N, μ, ds, d, nt, hr, e, q⟩
  obtain ⟨x, rfl⟩ := biO1 e (by simp)
  obtain ⟨v, rfl, hx⟩ := arg1 hr
  cases x <;> try (cases e; done)
  case lst ys =>
    obtain ⟨bs, e1, rfl⟩ := map_some e
    obtain ⟨a, vs, rfl, h, qs⟩ := hx.lst_of
    obtain ⟨rfl, _⟩ := intL_map qs e1
    exact cr_sum hc pins s σ H _ us Q I r ⟨a, bs, rfl, h, q _ _ (Same.refl H) (.int _)⟩
theorem cb_max2 (hc : X.calm = true) : CallR X (.builtin "max") (rBi X.K G .max2) := by
  intro pins s σ H xs us Q I r ⟨N, μ, ds, d, nt, hr, e, q⟩
  match ds, e with
  | [.int i, .int j], e =>
    obtain ⟨x, y, rfl, hx, hy⟩ := arg2 hr
    cases hx; cases hy; cases e
    exact call_max2 hc pins s σ H _ us Q I r ⟨i, j, rfl, q _ _ (Same.refl H) (.int _)⟩
theorem cb_min2 (hc : X.calm = true) : CallR X (.builtin "min") (rBi X.K G .min2) := by
  intro pins s σ H xs us Q I r ⟨N, μ, ds, d, nt, hr, e, q⟩
  match ds, e with
  | [.int i, .int j], e =>
    obtain ⟨x, y, rfl, hx, hy⟩ := arg2 hr
    cases hx; cases hy; cases e
    exact call_min2 hc pins s σ H _ us Q I r ⟨i, j, rfl, q _ _ (Same.refl H) (.int _)⟩
theorem leastI_le : ∀ (is : List Int) (i : Int), leastI i is ≤ i ∧ ∀ j ∈ is, leastI i is ≤ j
  | [], i => ⟨Int.le_refl _, fun j h => by simp at h⟩
  | j :: js, i => by
    have h := leastI_le js (if j < i then j else i)
    have h0 : leastI i (j :: js) = leastI (if j < i then j else i) js := rfl
    rw [h0]
    refine ⟨?_, fun x hx => ?_⟩
    · have := h.1
      split at this <;> rename_i z <;> simp only [z, if_true, if_false] at h ⊢ <;> omega
    · rcases List.mem_cons.mp hx with rfl | hx
      · have := h.1
        split at this <;> rename_i z <;> simp only [z, if_true, if_false] at h ⊢ <;> omega
      · exact h.2 x hx
theorem leastI_mem : ∀ (is : List Int) (i : Int), leastI i is ∈ i :: is
  | [], i => by simp [leastI]
  | j :: js, i => by
    have h := leastI_mem js (if j < i then j else i)
    have h0 : leastI i (j :: js) = leastI (if j < i then j else i) js := rfl
    rw [h0]
    rcases List.mem_cons.mp h with e | e
    · rw [e]; split <;> simp
    · simp [e]
theorem cb_minL (hc : X.calm = true) : CallR X (.builtin "min") (rBi X.K G .minL) := by
  intro pins s σ H xs us Q I r ⟨N, μ, ds, d, nt, hr, e, q⟩
  obtain ⟨x, rfl⟩ := biO1 e (by simp)
  obtain ⟨v, rfl, hx⟩ := arg1 hr
  cases x <;> try (cases e; done)
  case lst ys =>
    obtain ⟨a, vs, rfl, h, qs⟩ := hx.lst_of
    have e : (match intL ys with | some (i :: is) => some (D.int (leastI i is)) | _ => none) = some d := e
    cases e1 : intL ys with
    | none => rw [e1] at e; cases e
    | some bs =>
      rw [e1] at e
      cases bs with
      | nil => cases e
      | cons i is =>
        cases e
        obtain ⟨rfl, _⟩ := intL_map qs e1
        refine cr_min hc pins s σ H _ us Q I r ⟨a, i :: is, rfl, h, by simp, fun m hm hle => ?_⟩
        have h1 := leastI_le is i
        have h2 := leastI_mem is i
        have h3 := hle _ h2
        have h4 : leastI i is ≤ m := by
          rcases List.mem_cons.mp hm with rfl | hm
          · exact h1.1
          · exact h1.2 m hm
        have : m = leastI i is := by omega
        rw [this]
        exact q _ _ (Same.refl H) (.int _)
theorem cb_list : CallR X (.type "list") (rBi X.K G .list) := by
  intro pins s σ H xs us Q I r ⟨N, μ, ds, d, nt, hr, e, q⟩
  obtain ⟨x, rfl⟩ := biO1 e (by simp)
  obtain ⟨v, rfl, hx⟩ := arg1 hr
  cases x <;> try (cases e; done)
  case tup ys =>
    cases e
    obtain ⟨a, vs, rfl, h, qs⟩ := hx.tup_of
    exact call_list_of pins s σ H _ us Q I r ⟨a, vs, rfl, .inr h, fun p hp => q _ _ (same_upd hp) (Rp.newL nt hp qs)⟩
  case lst ys =>
    cases e
    obtain ⟨a, vs, rfl, h, qs⟩ := hx.lst_of
    exact call_list_of pins s σ H _ us Q I r ⟨a, vs, rfl, .inl h, fun p hp => q _ _ (same_upd hp) (Rp.newL nt hp qs)⟩
theorem cb_tuple : CallR X (.type "tuple") (rBi X.K G .tuple) := by
  intro pins s σ H xs us Q I r ⟨N, μ, ds, d, nt, hr, e, q⟩
  obtain ⟨x, rfl⟩ := biO1 e (by simp)
  obtain ⟨v, rfl, hx⟩ := arg1 hr
  cases x <;> try (cases e; done)
  case tup ys =>
    cases e
    obtain ⟨a, vs, rfl, h, qs⟩ := hx.tup_of
    exact call_tuple_of pins s σ H _ us Q I r ⟨a, vs, rfl, .inr ⟨h, q _ _ (Same.refl H) hx⟩⟩
  case lst ys =>
    cases e
    obtain ⟨a, vs, rfl, h, qs⟩ := hx.lst_of
    exact call_tuple_of pins s σ H _ us Q I r ⟨a, vs, rfl, .inl ⟨h, fun p hp => q _ _ (same_upd hp) (Rp.newT nt hp qs)⟩⟩
theorem cb_sorted (hu : X.A.units + 2 + 64 < cLine) : CallR X (.builtin "sorted") (rBi X.K G .sorted) := by
  intro pins s σ H xs us Q I r ⟨N, μ, ds, d, nt, hr, e, q⟩
  obtain ⟨x, rfl⟩ := biO1 e (by simp)
  obtain ⟨v, rfl, hx⟩ := arg1 hr
  cases x <;> try (cases e; done)
  case lst ys =>
    obtain ⟨zs, e1, rfl⟩ := map_some e
    unfold sortO at e1
    cases e2 : toPys ys with
    | none => rw [e2] at e1; cases e1
    | some ps =>
      rw [e2] at e1
      simp only at e1
      split at e1
      · rename_i hs
        cases e1
        rw [Bool.and_eq_true, decide_eq_true_eq] at hs
        obtain ⟨hs, hb⟩ := hs
        obtain ⟨al, so, sh⟩ := sorts_alike hs
        obtain ⟨em, ey⟩ := toPys_map e2
        obtain ⟨a, vs, rfl, h, qs⟩ := hx.lst_of
        obtain ⟨its, rv, pl, hz⟩ := I.list h
        rw [Vals.ref1 r]
        have tri := tri_of rv qs
        have er : PySem.W.EachIs (fun u b => ∃ as, Reads s.heap u (pyD b) as) its ys := (each_mem tri).mono fun u b ⟨⟨v, r1, r2⟩, hm⟩ => Dp.reads I _ _ _ (r2.dp (ey b hm)) r1
        refine PySem.W.sorted_data (enc := pyD) pl.isList tri er (by rw [← em]; exact al) (by rw [← em]; exact so) (by rw [← big_eq]; exact hb) (fun b hm => ?_) fun out hl ho => ?_
        · have hd := SeqAt.depth_of_shaped (sh (pyD b) (by rw [em]; exact List.mem_map_of_mem hm))
          omega
        · rw [← leD_eq, sortBy_merge leD_total] at ho
          obtain ⟨ws, rw1, qw⟩ := of_tri ho
          obtain ⟨ep, he'⟩ := PyProof.Rows.sortedAll_at s.heap its out.toArray
          have hn := I.hok.fresh (Nat.le_succ s.heap.objs.size)
          refine ⟨.ref _, upd H (s.heap.objs.size + 1) (.lst ws), I.laid (t' := s.toks) (fun _ _ => PyProof.Rows.sortedAll_old) (Nat.le_succ _) ⟨?_, out, ep, rw1, he'⟩, rfl, q _ _ (same_upd hn) (Rp.newL nt hn qw)⟩
          rw [rw1.length, hl, ← big_eq]
          exact hb
      · cases e1
end
section
variable {X : Cx} {G : Gx} {W : WX} {n k : Nat} {pos p : Pos} {a b c e : Expr} {es : List Expr} {ia ib ic ie : Ex} {ies : Exs}
theorem bi_read {f : Bi} {σ : St} {H : Hp} {Q : VK} (h : tE X.K G W n (.bi f ies) σ H Q) : tCB (rBi X.K G f) (tA X.K G W n ies) σ H Q := by
  obtain ⟨fr, μ, O, ρ, S, rel, h⟩ := h
  refine ⟨fr, μ, O, ρ, S, rel, (End.bind (RR := Rps X.K G) h).mono fun vs H1 ⟨ds, S1, μ1, s1, rel1, r1, h1⟩ => ?_⟩
  obtain ⟨d, e, h1⟩ := End.of_some h1
  exact ⟨_, μ1, ds, d, rel1.nt, r1, e, fun v H' s q => End.fin h1 rel1 s q⟩
/-- f(e, ..), f a built-in function -/
theorem e_biF {id : String} {f : Bi} {x : Str} (hc : CallR X (.builtin id) (rBi X.K G f)) (hg : Gl X x) (hm : X.mg x = none) (hv : bootBuiltins x = some (.builtin id)) (ha : PA X (e :: es) (tA X.K G W n ies)) (hn : x ≠ "__name__" := by decide) (hdb : (x == ("__debug__" : Str)) = false := by decide)
    (he : starEach (e :: es) X.env = (false, eval e X.env) :: starEach es X.env := by rfl) (hpl : (backTo pos (starEach es X.env)).any (·.1) = false := by rfl) : PE X (.Call (.Name x p) (e :: es) [] pos) (tE X.K G W n (.bi f ies)) :=
  (pe_callB hc hg hm hv ha hn hdb he hpl).imp fun _ _ _ h => bi_read h
theorem e_biT {T : String} {f : Bi} {x : Str} (hc : CallR X (.type T) (rBi X.K G f)) (hg : Gl X x) (hm : X.mg x = none) (hv : bootBuiltins x = some (.type T)) (ha : PA X (e :: es) (tA X.K G W n ies)) (hn : x ≠ "__name__" := by decide) (hdb : (x == ("__debug__" : Str)) = false := by decide)
    (he : starEach (e :: es) X.env = (false, eval e X.env) :: starEach es X.env := by rfl) (hpl : (backTo pos (starEach es X.env)).any (·.1) = false := by rfl) : PE X (.Call (.Name x p) (e :: es) [] pos) (tE X.K G W n (.bi f ies)) :=
  (pe_callTy hc hg hm hv ha hn hdb he hpl).imp fun _ _ _ h => bi_read h
/-! ### isinstance(x, T) -/
def tyOf : Ty → String
  | .int => "int" | .bool => "bool" | .tuple => "tuple" | .str => "str" | .list => "list"
def clsOf : D → Option String
  | .non => some "NoneType" | .bl _ => some "bool" | .int _ => some "int" | .str _ => some "str" | .tup _ => some "tuple" | .lst _ => some "list" | _ => none
theorem ty_of {K : PySem.W.Frag} {N : Addr → Prop} {μ : List Addr} {H : Hp} {x : V} {d : D} {t : String} (r : Rp K G N μ H x d) (h : clsOf d = some t) : TyX K H x (.type t) := by
  cases r with
  | non => cases h; exact .base .non
  | bl b => cases h; exact .base (.bl b)
  | int i => cases h; exact .base (.int i)
  | str x => cases h; exact .base (.str x)
  | tupH r _ _ =>
    cases h
    rcases r with r | ⟨o, r⟩
    · exact .base (.tup r)
    · exact .fTuple r
  | tupK r _ =>
    cases h
    obtain ⟨o, its, n, e, c, _⟩ := r
    exact .kTuple e c
  | lst r _ _ =>
    cases h
    rcases r with r | ⟨o, r⟩
    · exact .base (.lst r)
    · exact .base (.frz r)
  | obj _ => cases h
  | fn _ => cases h
  | cloT _ _ _ _ => cases h
  | cloG _ _ _ _ _ => cases h
theorem isa_kit {t : Ty} {d : D} {k : Bool} (h : isa t d = some k) : ∃ c, clsOf d = some c ∧ kitB c (tyOf t) = some k := by
  cases d <;> cases t <;> first | (cases h; exact ⟨_, rfl, by decide +kernel⟩) | cases h
theorem e_isa {t : Ty} {y : Str} {p2 : Pos} (hg : Gl X "isinstance") (hm : X.mg "isinstance" = none) (ha : PE X e (tE X.K G W n ie)) (hgt : Gl X y) (hmt : X.mg y = none) (hvt : bootBuiltins y = some (.type (tyOf t)))
    (hv : bootBuiltins "isinstance" = some (.builtin "isinstance") := by decide +kernel) (hnt : y ≠ "__name__" := by decide) (hdt : (y == ("__debug__" : Str)) = false := by decide)
    (he : starEach [e, .Name y p2] X.env = (false, eval e X.env) :: starEach [.Name y p2] X.env := by rfl) : PE X (.Call (.Name "isinstance" p) [e, .Name y p2] [] pos) (tE X.K G W n (.isa t ie)) := by
  refine (pe_callB call_isi hg hm hv (pa_cons ha (pa_cons (pe_bltn (v := .ty (tyOf t)) hgt hmt hvt rfl hnt hdt) pa_nil) he) (by decide) (by decide) he).imp fun σ H Q ⟨fr, μ, O, ρ, S, rel, h⟩ => ?_
  refine ⟨fr, μ, O, ρ, S, rel, (End.bind (RR := Rp X.K G) h).mono fun x H1 ⟨dx, S1, μ1, s1, rel1, r1, h1⟩ => ?_⟩
  cases e : isa t dx with
  | none => rw [e] at h1; exact h1.elim
  | some k =>
    rw [e] at h1
    obtain ⟨c, e1, e2⟩ := isa_kit e
    exact ⟨x, .ty (tyOf t), _, _, k, rfl, .ty _, ty_of r1 e1, kit_ty e2, End.fin h1 rel1 (Same.refl _) (.bl k)⟩
/-! ### subscripts, slices -/
theorem ix_any : IxR X (fun x y H Q => rIxL X.K x y H Q ∨ rIxT X.K x y H Q) := IxR.or ix_list ix_tup
theorem atI_rp {K : PySem.W.Frag} {N : Addr → Prop} {μ : List Addr} {H : Hp} {vs : List V} {ds : List D} {i : Int} {d : D} (q : Rps K G N μ H vs ds) (h : atI ds i = some d) : ∃ v, atI vs i = some v ∧ Rp K G N μ H v d := by
  unfold atI at h ⊢
  rw [q.length]
  cases e : ixN ds.length i with
  | none => rw [e] at h; cases h
  | some j =>
    rw [e] at h
    exact q.get h
theorem e_sub (ha : PE X a (tE X.K G W n ia)) (hb : PE X b (tE X.K G W n ib)) (hs : PlainIx b) : PE X (.Subscript a b pos) (tE X.K G W n (.sub ia ib)) := by
  refine (pe_ix ix_any ha hb hs).imp fun σ H Q ⟨fr, μ, O, ρ, S, rel, h⟩ => ?_
  refine ⟨fr, μ, O, ρ, S, rel, (End.bind (RR := Rp X.K G) h).mono fun x H1 ⟨dx, S1, μ1, s1, rel1, r1, h1⟩ => ?_⟩
  refine ⟨fr, μ1, O, ρ, S1, rel1, (End.bind (RR := Rp X.K G) h1).mono fun y H2 ⟨dy, S2, μ2, s2, rel2, r2, h2⟩ => ?_⟩
  obtain ⟨d, e, h3⟩ := End.of_some h2
  have r1' := r1.step s2
  have go : ∀ (z : D), deref S2 dx = z → (∀ xs, z = .tup xs → ∃ a vs, x = .ref a ∧ SqT X.K H2 a vs ∧ Rps X.K G (NN fr.M O μ2) μ2 H2 vs xs) → (∀ xs, z = .lst xs → ∃ a vs, x = .ref a ∧ SqL X.K H2 a vs ∧ Rps X.K G (NN fr.M O μ2) μ2 H2 vs xs) →
      (rIxL X.K x y H2 Q ∨ rIxT X.K x y H2 Q) := fun z hz ht hl => by
    rw [hz] at e
    cases z <;> try (cases dy <;> cases e; done)
    case tup xs =>
      cases dy <;> try (cases e; done)
      case int i =>
        obtain ⟨a, vs, rfl, h, q⟩ := ht xs rfl
        cases r2
        obtain ⟨v, e1, rv⟩ := atI_rp q e
        exact .inr ⟨a, vs, i, v, rfl, rfl, h, e1, End.fin h3 rel2 (Same.refl _) rv⟩
    case lst xs =>
      cases dy <;> try (cases e; done)
      case int i =>
        obtain ⟨a, vs, rfl, h, q⟩ := hl xs rfl
        cases r2
        obtain ⟨v, e1, rv⟩ := atI_rp q e
        exact .inl ⟨a, vs, i, v, rfl, rfl, h, e1, End.fin h3 rel2 (Same.refl _) rv⟩
  cases dx with
  | obj m =>
    cases r1' with
    | @obj a _ em =>
      have hd : deref S2 (.obj m) = match S2[m]? with | some (.lst xs) => .lst xs | _ => .obj m := rfl
      cases es : S2[m]? with
      | none => exact go (.obj m) (by rw [hd, es]) (fun _ z => by cases z) (fun _ z => by cases z)
      | some ob =>
        have ob' := rel2.st.ob m a ob em es
        cases ob with
        | ins c fs => exact ob'.elim
        | lst xs =>
          obtain ⟨vs, e1, q, _⟩ := ob'
          exact go (.lst xs) (by rw [hd, es]) (fun _ z => by cases z) (fun ys z => by cases z; exact ⟨a, vs, rfl, .inl (.inl e1), q⟩)
  | _ => exact go _ rfl (fun xs z => by cases z <;> exact r1'.tup_of) (fun xs z => by cases z <;> exact r1'.lst_of)
/-- a part of a slice -/
def tO (K : PySem.W.Frag) (G : Gx) (W : WX) (n : Nat) (o : Oex) : TO := TX K G W RId (evO (callF G.Φ G.Λ G.nm G.F n) o)
theorem _root_.L2.PO.imp {e : Option Expr} {t t' : TO} (h : PO X e t) (hi : ∀ σ H Q, t' σ H Q → t σ H Q) : PO X e t' := ⟨fun pins s σ H Q I w => h.run pins s σ H Q I (hi σ H Q w)⟩
theorem o_none : PO X none (tO X.K G W n .none) := po_none.imp fun _ _ _ ⟨_, _, _, _, _, rel, h⟩ => End.fin h rel (Same.refl _) rfl
theorem o_some (ha : PE X e (tE X.K G W n ie)) : PO X (some e) (tO X.K G W n (.some ie)) := by
  refine (po_some ha).imp fun σ H Q ⟨fr, μ, O, ρ, S, rel, h⟩ => ?_
  refine ⟨fr, μ, O, ρ, S, rel, (End.bind (RR := Rp X.K G) h).mono fun x H1 ⟨dx, S1, μ1, s1, rel1, r1, h1⟩ => ?_⟩
  cases dx <;> try exact h1.elim
  cases r1
  exact ⟨_, rfl, End.fin h1 rel1 (Same.refl _) rfl⟩
theorem cut_rps {K : PySem.W.Frag} {N : Addr → Prop} {μ : List Addr} {H : Hp} {vs : List V} {ds : List D} {lo hi : Option Int} (q : Rps K G N μ H vs ds) : Rps K G N μ H (cutV vs lo hi) (cut ds lo hi) := by
  unfold cutV cut
  rw [q.length]
  exact (q.drop _).take _
theorem cut_all {α : Type} {ds : List α} {lo hi : Option Int} (h1 : HT.sIx ds.length 0 lo = 0) (h2 : HT.sIx ds.length ds.length hi = ds.length) : cut ds lo hi = ds := by
  unfold cut
  rw [h1, h2, List.drop_zero, Nat.sub_zero, List.take_length]
theorem e_slice {lo hi : Option Expr} {il ih : Oex} {p2 : Pos} (ha : PE X a (tE X.K G W n ia)) (hl : PO X lo (tO X.K G W n il)) (hh : PO X hi (tO X.K G W n ih)) : PE X (.Subscript a (.Slice lo hi none p2) pos) (tE X.K G W n (.slice ia il ih)) := by
  refine (pe_slice (SlR.or sl_tupA sl_list) ha hl hh).imp fun σ H Q ⟨fr, μ, O, ρ, S, rel, h⟩ => ?_
  refine ⟨fr, μ, O, ρ, S, rel, (End.bind (RR := Rp X.K G) h).mono fun x H1 ⟨dx, S1, μ1, s1, rel1, r1, h1⟩ => ?_⟩
  refine ⟨fr, μ1, O, ρ, S1, rel1, (End.bind (RR := RId) h1).mono fun l H2 ⟨dl, S2, μ2, s2, rel2, r2, h2⟩ => ?_⟩
  cases r2
  refine ⟨fr, μ2, O, ρ, S2, rel2, (End.bind (RR := RId) h2).mono fun u H3 ⟨du, S3, μ3, s3, rel3, r3, h3⟩ => ?_⟩
  cases r3
  obtain ⟨d, e, h3⟩ := End.of_some h3
  have rx := r1.step (s2.trans s3)
  cases dx <;> try (cases e; done)
  case tup ys =>
    cases e
    obtain ⟨a, vs, rfl, h, qs⟩ := rx.tup_of
    have el := qs.length
    refine .inl ⟨a, vs, rfl, h, fun ⟨z1, z2⟩ => ?_, fun _ p hp => End.fin h3 rel3 (same_upd hp) (Rp.newT rel3.nt hp (cut_rps qs))⟩
    rw [el] at z1 z2
    exact End.fin h3 rel3 (Same.refl _) (by rw [cut_all z1 z2]; exact rx)
  case lst ys =>
    cases e
    obtain ⟨a, vs, rfl, h, qs⟩ := rx.lst_of
    exact .inr ⟨a, vs, rfl, h, fun p hp => End.fin h3 rel3 (same_upd hp) (Rp.newL rel3.nt hp (cut_rps qs))⟩
end
end Iv
/-! Iv5: targets, what is walked, comprehensions. -/
namespace Iv
open PySem PySem.Spec PyProof.Rows L2
/-! ### slots -/
theorem wipe_get {σ : St} {j : Nat} : ∀ {vs : List Nat}, (wipe σ vs)[j]? = if j ∈ vs ∧ j < σ.length then some none else σ[j]?
  | [] => by simp [wipe]
  | v :: vs => by
    rw [wipe, List.getElem?_set, wipe_get, wipe_length]
    by_cases h1 : v = j
    · subst h1
      by_cases h2 : v < σ.length
      · simp [h2]
      · simp [h2, List.getElem?_eq_none (Nat.le_of_not_lt h2)]
    · have h1' : ¬ j = v := fun e => h1 e.symm
      simp [h1, h1']
theorem wipes_length (ρ : Env) : ∀ vs : List Nat, (wipes ρ vs).length = ρ.length
  | [] => rfl
  | v :: vs => by rw [wipes, List.length_set, wipes_length ρ vs]
theorem wipes_get {ρ : Env} {j : Nat} : ∀ {vs : List Nat}, (wipes ρ vs)[j]? = if j ∈ vs ∧ j < ρ.length then some .none else ρ[j]?
  | [] => by simp [wipes]
  | v :: vs => by
    rw [wipes, List.getElem?_set, wipes_get, wipes_length]
    by_cases h1 : v = j
    · subst h1
      by_cases h2 : v < ρ.length
      · simp [h2]
      · simp [h2, List.getElem?_eq_none (Nat.le_of_not_lt h2)]
    · have h1' : ¬ j = v := fun e => h1 e.symm
      simp [h1, h1']
theorem wipe_eq {σ σ2 : St} {vs : List Nat} (hl : σ2.length = σ.length) (h : ∀ j, j ∉ vs → σ2[j]? = σ[j]?) : wipe σ2 vs = wipe σ vs := by
  apply List.ext_getElem?
  intro j
  rw [wipe_get, wipe_get, hl]
  by_cases hj : j ∈ vs
  · by_cases hk : j < σ.length
    · simp [hj, hk]
    · simp [hk, List.getElem?_eq_none (Nat.le_of_not_lt hk), List.getElem?_eq_none (Nat.le_of_not_lt (hl ▸ hk))]
  · simp [hj, h j hj]
theorem wipe_wipe {σ : St} {vs : List Nat} : wipe (wipe σ vs) vs = wipe σ vs := wipe_eq (wipe_length σ vs) fun j hj => wipe_out hj
section
variable {K : PySem.W.Frag} {G : Gx} {fr : Fr} {μ O : List Addr} {H : Hp} {σ : St} {ρ : Env} {S : Store}
theorem Rel.put {i : Nat} {v : V} {d : D} (rel : Rel K G fr μ O H σ ρ S) (r : Rp K G (NN fr.M O μ) μ H v d) : Rel K G fr μ O H (σ.set i (some v)) (ρ.set i (.val d)) S := by
  refine ⟨rel.step, rel.mtr, rel.oth, rel.st, rel.tabs, by rw [List.length_set, List.length_set, rel.len], fun j s e => ?_, fun j k a ds es e1 e2 e3 e4 => ?_⟩
  · rw [List.getElem?_set] at e ⊢
    by_cases h : i = j
    · subst h
      rw [if_pos rfl] at e ⊢
      by_cases hl : i < ρ.length
      · rw [if_pos hl] at e
        rw [if_pos (rel.len ▸ hl)]
        cases e
        exact ⟨v, rfl, r⟩
      · rw [if_neg hl] at e; cases e
    · rw [if_neg h] at e ⊢
      exact rel.env j s e
  · have f : ∀ (j : Nat) (ds : List D), (ρ.set i (.val d))[j]? = some (.own ds) → j ≠ i ∧ ρ[j]? = some (.own ds) := fun j ds e => by
      rw [List.getElem?_set] at e
      by_cases h : i = j
      · subst h
        rw [if_pos rfl] at e
        split at e <;> cases e
      · rw [if_neg h] at e; exact ⟨fun z => h z.symm, e⟩
    obtain ⟨n1, e1⟩ := f _ _ e1
    obtain ⟨n2, e2⟩ := f _ _ e2
    rw [List.getElem?_set_ne (Ne.symm n1)] at e3
    rw [List.getElem?_set_ne (Ne.symm n2)] at e4
    exact rel.own1 j k a ds es e1 e2 e3 e4
theorem Rel.wipe (vs : List Nat) (rel : Rel K G fr μ O H σ ρ S) : Rel K G fr μ O H (wipe σ vs) (wipes ρ vs) S := by
  have f : ∀ (j : Nat) (s : Sl), (wipes ρ vs)[j]? = some s → s = .none ∨ (j ∉ vs ∧ ρ[j]? = some s) := fun j s e => by
    rw [wipes_get] at e
    by_cases h : j ∈ vs ∧ j < ρ.length
    · rw [if_pos h] at e; cases e; exact .inl rfl
    · rw [if_neg h] at e
      refine .inr ⟨fun hj => h ⟨hj, (List.getElem?_eq_some_iff.mp e).1⟩, e⟩
  refine ⟨rel.step, rel.mtr, rel.oth, rel.st, rel.tabs, by rw [wipe_length, wipes_length, rel.len], fun j s e => ?_, fun j k a ds es e1 e2 e3 e4 => ?_⟩
  · rcases f j s e with h | ⟨h, e⟩
    · subst h; trivial
    · rw [wipe_out h]; exact rel.env j s e
  · rcases f _ _ e1 with h | ⟨h1, e1⟩
    · cases h
    rcases f _ _ e2 with h | ⟨h2, e2⟩
    · cases h
    rw [wipe_out h1] at e3
    rw [wipe_out h2] at e4
    exact rel.own1 j k a ds es e1 e2 e3 e4
/-- one more list of this frame -/
theorem tabs_upd {T : List (Addr × Str)} {L : Addr} {o : HO} {xs : List V} (t : LamX.Tabs T H) (h : H L = some (.lst xs)) : LamX.Tabs T (upd H L o) := fun p hp => by
  obtain ⟨ps, e, q1, q2⟩ := t p hp
  refine ⟨ps, (upd_ne fun z => by rw [z, h] at e; cases e).trans e, q1, fun pos cv hc => ?_⟩
  obtain ⟨c, e1, e2⟩ := q2 pos cv hc
  exact ⟨c, e1, (upd_ne fun z => by rw [z, h] at e2; cases e2).trans e2⟩
theorem Rel.newO {L : Addr} {xs : List V} (rel : Rel K G fr μ O H σ ρ S) (h : H L = none) : Rel K G fr μ (L :: O) (upd H L (.lst xs)) σ ρ S := by
  generalize ho : HO.lst xs = o
  have sm : Same H (upd H L o) := same_upd h
  have hD : L ∉ μ := fun z => by obtain ⟨u, e, _⟩ := rel.st.there z; rw [h] at e; cases e
  have nM : ∀ b u, H b = some u → ¬ NN fr.M O μ b → ¬ NN fr.M (L :: O) μ b := fun b u e n z => by
    rcases z with z | z | z
    · exact n (.inl z)
    · rcases List.mem_cons.mp z with z | z
      · rw [z, h] at e; cases e
      · exact n (.inr (.inl z))
    · exact n (.inr (.inr z))
  have im : ∀ b u, H b = some u → ¬ NN fr.M O μ b → (∀ ps, u ≠ .tbl ps) → upd H L o b = some u ∧ ¬ NN fr.M (L :: O) μ b := fun b u e n _ => ⟨sm b u e, nM b u e n⟩
  have st : Step μ O H μ (L :: O) (upd H L o) := ⟨fun b u e _ _ _ => sm b u e, fun b e => (Step.same (μ := []) (O := []) sm).trk b e, ⟨[], by simp, by simp⟩, fun a ha => by
    rcases List.mem_cons.mp ha with z | z
    · rw [z]; exact .inr h
    · exact .inl z⟩
  refine ⟨rel.step.trans st, rel.mtr, fun a ha => ?_, ⟨rel.st.len, rel.st.nd, fun n a ob e1 e2 => ?_⟩, rel.tabs.ext sm, rel.len, fun i s e => ?_, rel.own1⟩
  · rcases List.mem_cons.mp ha with z | z
    · rw [z]; exact ⟨⟨xs, by rw [upd_same, ho]⟩, hD⟩
    · exact ⟨(rel.oth a z).1.imp fun _ e => sm _ _ e, (rel.oth a z).2⟩
  · have hm : a ∈ μ := List.mem_of_getElem? e1
    exact (rel.st.ob n a ob e1 e2).imp im (fun _ _ e => e) (upd_ne fun z => hD (z ▸ hm))
  · have q := rel.env i s e
    cases s with
    | none => trivial
    | val d => obtain ⟨v, e1, q⟩ := q; exact ⟨v, e1, q.imp im fun _ _ e => e⟩
    | own ds =>
      obtain ⟨a, xs, e1, ha, e2, q⟩ := q
      exact ⟨a, xs, e1, List.mem_cons_of_mem _ ha, sm _ _ e2, q.imp im fun _ _ e => e⟩
/-- a list of this frame changes: a slot that holds it, if any, tells so -/
theorem Rel.wr {L : Addr} {xs0 xs : List V} {ρ' : Env} (rel : Rel K G fr μ O H σ ρ S) (hD : L ∈ O) (hd : H L = some (.lst xs0)) (hl : ρ'.length = ρ.length)
    (he : ∀ (j : Nat) (s : Sl), ρ'[j]? = some s → (ρ[j]? = some s ∧ ∀ ds, s = Sl.own ds → σ[j]? ≠ some (some (V.ref L))) ∨ (∃ ds, s = Sl.own ds ∧ (∃ es, ρ[j]? = some (Sl.own es)) ∧ σ[j]? = some (some (V.ref L)) ∧ Rps K G (NN fr.M O μ) μ H xs ds)) :
    Rel K G fr μ O (upd H L (.lst xs)) σ ρ' S := by
  have st : Step μ O H μ O (upd H L (.lst xs)) := ⟨fun b u e _ hO _ => (upd_ne fun z => hO (by rw [z]; exact hD)).trans e, fun b e => by
    by_cases z : b = L
    · rw [z, upd_same]; simp
    · rw [upd_ne z]; exact e, ⟨[], by simp, by simp⟩, fun _ h => .inl h⟩
  have im := st.imp (M := fr.M)
  refine ⟨rel.step.trans st, rel.mtr, fun a ha => ⟨by
    by_cases z : a = L
    · rw [z]; exact ⟨xs, upd_same⟩
    · exact (rel.oth a ha).1.imp fun _ e => (upd_ne z).trans e, (rel.oth a ha).2⟩, ⟨rel.st.len, rel.st.nd, fun n a ob e1 e2 => ?_⟩, tabs_upd rel.tabs hd, by rw [hl, rel.len], fun i s e => ?_, fun j k a ds es e1 e2 e3 e4 => ?_⟩
  · have hm : a ∈ μ := List.mem_of_getElem? e1
    exact (rel.st.ob n a ob e1 e2).imp im (fun _ _ e => e) (upd_ne fun z => (rel.oth L hD).2 (z ▸ hm))
  · rcases he i s e with ⟨e, no⟩ | ⟨ds, rfl, _, e1, q⟩
    · have q := rel.env i s e
      cases s with
      | none => trivial
      | val d => obtain ⟨v, e1, q⟩ := q; exact ⟨v, e1, q.imp im fun _ _ e => e⟩
      | own ds =>
        obtain ⟨a, ys, e1, ha, e2, q⟩ := q
        exact ⟨a, ys, e1, ha, (upd_ne fun z => no ds rfl (by rw [e1, z])).trans e2, q.imp im fun _ _ e => e⟩
    · exact ⟨L, xs, e1, hD, upd_same, q.imp im fun _ _ e => e⟩
  · have f : ∀ (j : Nat) (ds : List D), ρ'[j]? = some (.own ds) → ∃ es, ρ[j]? = some (.own es) := fun j ds e => by
      rcases he j _ e with ⟨e, _⟩ | ⟨_, _, h, _⟩
      · exact ⟨ds, e⟩
      · exact h
    obtain ⟨_, f1⟩ := f _ _ e1
    obtain ⟨_, f2⟩ := f _ _ e2
    exact rel.own1 j k a _ _ f1 f2 e3 e4
end
/-! ### targets -/
theorem put_p2 {a b : Pt} {d : D} {ρ ρ' : Env} (h : (Pt.p2 a b).put d ρ = some ρ') : ∃ x y ρ1, (d = .tup [x, y] ∨ d = .lst [x, y]) ∧ a.put x ρ = some ρ1 ∧ b.put y ρ1 = some ρ' := by
  unfold Pt.put at h
  split at h
  · rename_i e; cases e
  · rename_i e
    cases e
    split at h
    · exact ⟨_, _, _, .inl rfl, by assumption, h⟩
    · cases h
  · rename_i e
    cases e
    split at h
    · exact ⟨_, _, _, .inr rfl, by assumption, h⟩
    · cases h
  · rename_i e; cases e
  · rename_i e; cases e
  · cases h
theorem put_p3 {a b c : Pt} {d : D} {ρ ρ' : Env} (h : (Pt.p3 a b c).put d ρ = some ρ') : ∃ x y z ρ1 ρ2, d = .tup [x, y, z] ∧ a.put x ρ = some ρ1 ∧ b.put y ρ1 = some ρ2 ∧ c.put z ρ2 = some ρ' := by
  unfold Pt.put at h
  split at h
  · rename_i e; cases e
  · rename_i e; cases e
  · rename_i e; cases e
  · rename_i e
    cases e
    split at h
    · split at h
      · exact ⟨_, _, _, _, _, rfl, by assumption, by assumption, h⟩
      · cases h
    · cases h
  · rename_i e; cases e
  · cases h
theorem put_p4 {a b c f : Pt} {d : D} {ρ ρ' : Env} (h : (Pt.p4 a b c f).put d ρ = some ρ') : ∃ x y z w ρ1 ρ2 ρ3, d = .tup [x, y, z, w] ∧ a.put x ρ = some ρ1 ∧ b.put y ρ1 = some ρ2 ∧ c.put z ρ2 = some ρ3 ∧ f.put w ρ3 = some ρ' := by
  unfold Pt.put at h
  split at h
  · rename_i e; cases e
  · rename_i e; cases e
  · rename_i e; cases e
  · rename_i e; cases e
  · rename_i e
    cases e
    split at h
    · split at h
      · split at h
        · exact ⟨_, _, _, _, _, _, _, rfl, by assumption, by assumption, by assumption, h⟩
        · cases h
      · cases h
    · cases h
  · cases h
section
variable {X : Cx} {G : Gx} {W : WX} {n k : Nat} {pos : Pos}
theorem pg_or {e : Expr} {t u : TG} (h1 : PG X e t) (h2 : PG X e u) : PG X e fun v σ H Q => t v σ H Q ∨ u v σ H Q := ⟨fun pins s σ H v w Q I r h => h.elim (h1.run pins s σ H v w Q I r) (h2.run pins s σ H v w Q I r)⟩
def tG (K : PySem.W.Frag) (G : Gx) (p : Pt) : TG := fun v σ H Q => ∃ fr μ O ρ S d ρ', Rel K G fr μ O H σ ρ S ∧ Rp K G (NN fr.M O μ) μ H v d ∧ p.put d ρ = some ρ' ∧
  ∀ σ', Rel K G fr μ O H σ' ρ' S → (∀ j, j ∉ p.vars → σ'[j]? = σ[j]?) → Q σ' H
theorem g_nm {i : Nat} {x : Str} (hN : X.N.Nodup) (hi : X.N[i]? = some x) (hx : Loc X.env.scope x) (hf : X.fn x = true ∨ X.env.scope.names.lookup x = some .local) : PG X (.Name x pos) (tG X.K G (.nm i)) :=
  (pg_name hN hi hx hf).imp fun v σ H Q ⟨fr, μ, O, ρ, S, d, ρ', rel, r, e, h⟩ => by
    cases e
    exact h _ (rel.put r) fun j hj => List.getElem?_set_ne fun z => hj (by simp [Pt.vars, z])
theorem gcons_of {g : TGs} {p : Pt} {fr : Fr} {μ O : List Addr} {ρ ρ1 : Env} {S : Store} {v : V} {vs : List V} {d : D} {σ : St} {H : Hp} {Q : St → Hp → Prop} (rel : Rel X.K G fr μ O H σ ρ S) (r : Rp X.K G (NN fr.M O μ) μ H v d) (e1 : p.put d ρ = some ρ1)
    (h : ∀ σ', Rel X.K G fr μ O H σ' ρ1 S → (∀ j, j ∉ p.vars → σ'[j]? = σ[j]?) → g vs σ' H Q) : gCons (tG X.K G p) g (v :: vs) σ H Q := ⟨v, vs, rfl, fr, μ, O, ρ, S, d, ρ1, rel, r, e1, h⟩
theorem g_p2 {a b : Expr} {pa pb : Pt} {kk : Nat} (hc : X.calm = true) (ha : PG X a (tG X.K G pa)) (hb : PG X b (tG X.K G pb))
    (hs : (assignEach [a, b] X.env).map (·.2) = assign a X.env :: (assignEach [b] X.env).map (·.2)) (hs2 : (assignEach [b] X.env).map (·.2) = assign b X.env :: (assignEach [] X.env).map (·.2))
    (hn : (assignEach [a, b] X.env).length = 2) (hst : (assignEach [a, b] X.env).findIdx? (·.1) = none) : PG X (.Tuple [a, b] kk pos) (tG X.K G (.p2 pa pb)) := by
  have hh := pgs_cons ha (pgs_cons hb pgs_nil hs2) hs
  refine (pg_or (pg_tup (pos := pos) (k := kk) hc hh hn hst) (pg_lst (pos := pos) (k := kk) hc hh hn hst)).imp fun v σ H Q ⟨fr, μ, O, ρ, S, d, ρ', rel, r, e, h⟩ => ?_
  obtain ⟨x, y, ρ1, hd, e1, e2⟩ := put_p2 e
  have go : ∀ {xs : List V}, Rps X.K G (NN fr.M O μ) μ H xs [x, y] → gCons (tG X.K G pa) (gCons (tG X.K G pb) gNil) xs σ H Q := fun {xs} q => by
    obtain ⟨v1, v2, rfl, r1, r2⟩ := arg2 q
    exact gcons_of rel r1 e1 fun σ1 rel1 k1 => gcons_of rel1 r2 e2 fun σ2 rel2 k2 => ⟨rfl, h σ2 rel2 fun j hj => by
      simp only [Pt.vars, List.mem_append, not_or] at hj
      rw [k2 j hj.2, k1 j hj.1]⟩
  rcases hd with rfl | rfl
  · obtain ⟨a, xs, rfl, hq, q⟩ := r.tup_of
    exact .inl ⟨a, xs, rfl, hq, q.length, go q⟩
  · obtain ⟨a, xs, rfl, hq, q⟩ := r.lst_of
    exact .inr ⟨a, xs, rfl, hq, q.length, go q⟩
theorem g_p3 {a b c : Expr} {pa pb pc : Pt} {kk : Nat} (hc : X.calm = true) (ha : PG X a (tG X.K G pa)) (hb : PG X b (tG X.K G pb)) (hcc : PG X c (tG X.K G pc))
    (hs : (assignEach [a, b, c] X.env).map (·.2) = assign a X.env :: (assignEach [b, c] X.env).map (·.2)) (hs2 : (assignEach [b, c] X.env).map (·.2) = assign b X.env :: (assignEach [c] X.env).map (·.2))
    (hs3 : (assignEach [c] X.env).map (·.2) = assign c X.env :: (assignEach [] X.env).map (·.2))
    (hn : (assignEach [a, b, c] X.env).length = 3) (hst : (assignEach [a, b, c] X.env).findIdx? (·.1) = none) : PG X (.Tuple [a, b, c] kk pos) (tG X.K G (.p3 pa pb pc)) := by
  refine (pg_tup (pos := pos) (k := kk) hc (pgs_cons ha (pgs_cons hb (pgs_cons hcc pgs_nil hs3) hs2) hs) hn hst).imp fun v σ H Q ⟨fr, μ, O, ρ, S, d, ρ', rel, r, e, h⟩ => ?_
  obtain ⟨x, y, z, ρ1, ρ2, rfl, e1, e2, e3⟩ := put_p3 e
  obtain ⟨a, xs, rfl, hq, q⟩ := r.tup_of
  refine ⟨a, xs, rfl, hq, q.length, ?_⟩
  cases q with
  | cons r1 q =>
    obtain ⟨v2, v3, rfl, r2, r3⟩ := arg2 q
    exact gcons_of rel r1 e1 fun σ1 rel1 k1 => gcons_of rel1 r2 e2 fun σ2 rel2 k2 => gcons_of rel2 r3 e3 fun σ3 rel3 k3 => ⟨rfl, h σ3 rel3 fun j hj => by
      simp only [Pt.vars, List.mem_append, not_or] at hj
      rw [k3 j hj.2, k2 j hj.1.2, k1 j hj.1.1]⟩
theorem g_p4 {a b c f : Expr} {pa pb pc pf : Pt} {kk : Nat} (hc : X.calm = true) (ha : PG X a (tG X.K G pa)) (hb : PG X b (tG X.K G pb)) (hcc : PG X c (tG X.K G pc)) (hf : PG X f (tG X.K G pf))
    (hs : (assignEach [a, b, c, f] X.env).map (·.2) = assign a X.env :: (assignEach [b, c, f] X.env).map (·.2)) (hs2 : (assignEach [b, c, f] X.env).map (·.2) = assign b X.env :: (assignEach [c, f] X.env).map (·.2))
    (hs3 : (assignEach [c, f] X.env).map (·.2) = assign c X.env :: (assignEach [f] X.env).map (·.2)) (hs4 : (assignEach [f] X.env).map (·.2) = assign f X.env :: (assignEach [] X.env).map (·.2))
    (hn : (assignEach [a, b, c, f] X.env).length = 4) (hst : (assignEach [a, b, c, f] X.env).findIdx? (·.1) = none) : PG X (.Tuple [a, b, c, f] kk pos) (tG X.K G (.p4 pa pb pc pf)) := by
  refine (pg_tup (pos := pos) (k := kk) hc (pgs_cons ha (pgs_cons hb (pgs_cons hcc (pgs_cons hf pgs_nil hs4) hs3) hs2) hs) hn hst).imp fun v σ H Q ⟨fr, μ, O, ρ, S, d, ρ', rel, r, e, h⟩ => ?_
  obtain ⟨x, y, z, w, ρ1, ρ2, ρ3, rfl, e1, e2, e3, e4⟩ := put_p4 e
  obtain ⟨a, xs, rfl, hq, q⟩ := r.tup_of
  refine ⟨a, xs, rfl, hq, q.length, ?_⟩
  cases q with
  | cons r1 q =>
    cases q with
    | cons r2 q =>
      obtain ⟨v3, v4, rfl, r3, r4⟩ := arg2 q
      exact gcons_of rel r1 e1 fun σ1 rel1 k1 => gcons_of rel1 r2 e2 fun σ2 rel2 k2 => gcons_of rel2 r3 e3 fun σ3 rel3 k3 => gcons_of rel3 r4 e4 fun σ4 rel4 k4 => ⟨rfl, h σ4 rel4 fun j hj => by
        simp only [Pt.vars, List.mem_append, not_or] at hj
        rw [k4 j hj.2, k3 j hj.1.2, k2 j hj.1.1.2, k1 j hj.1.1.1]⟩
end
end Iv
/-! Iv6: what is walked. -/
namespace Iv
open PySem PySem.Spec PyProof.Rows L2 RZ
/-- J walks what ds stand for, from now on -/
def Wk (K : PySem.W.Frag) (G : Gx) (N : Addr → Prop) (μ : List Addr) (H : Hp) (J : It) (ds : List D) : Prop :=
  ∀ (N' : Addr → Prop) (μ' : List Addr) (H' : Hp), (∀ b o, H b = some o → ¬ N b → (∀ ps, o ≠ .tbl ps) → H' b = some o ∧ ¬ N' b) → (∀ (n : Nat) (a : Addr), μ[n]? = some a → μ'[n]? = some a) → NT N' H' →
    (∀ i d, ds[i]? = some d → J.go i H' ∧ ∀ x H'', J.yld i H' x H'' → Same H' H'' ∧ Rp K G N' μ' H'' x d) ∧ ∀ i, ds.length ≤ i → J.stop i H'
section
variable {K : PySem.W.Frag} {G : Gx} {N : Addr → Prop} {μ : List Addr} {H : Hp}
theorem Wk.later {N' : Addr → Prop} {μ' : List Addr} {H' : Hp} {J : It} {ds : List D} (w : Wk K G N μ H J ds) (hh : ∀ b o, H b = some o → ¬ N b → (∀ ps, o ≠ .tbl ps) → H' b = some o ∧ ¬ N' b) (hm : ∀ (n : Nat) (a : Addr), μ[n]? = some a → μ'[n]? = some a) : Wk K G N' μ' H' J ds :=
  fun N2 μ2 H2 h2 m2 nt => w N2 μ2 H2 (fun b o e n t => let ⟨e', n'⟩ := hh b o e n t; h2 b o e' n' t) (fun n a e => m2 n a (hm n a e)) nt
theorem rps_none {vs : List V} {ds : List D} {i : Nat} (q : Rps K G N μ H vs ds) (h : ds.length ≤ i) : vs.length ≤ i := by rw [q.length]; exact h
theorem wk_list {a : Addr} {ds : List D} (r : Rp K G N μ H (.ref a) (.lst ds)) : Wk K G N μ H (Itl K a) ds := fun N' μ' H' hh hm nt => by
  obtain ⟨b, xs, e, hq, q⟩ := (r.imp hh hm).lst_of
  cases e
  refine ⟨fun i d hd => ?_, fun i hi => ⟨xs, hq, rps_none q hi⟩⟩
  obtain ⟨v, e, r'⟩ := q.get hd
  exact ⟨⟨xs, v, hq, e⟩, fun x H'' ⟨e1, e2⟩ => by
    subst e1
    have e3 := e2 xs hq
    rw [e] at e3
    cases e3
    exact ⟨Same.refl _, r'⟩⟩
theorem wk_tup {a : Addr} {ds : List D} (r : Rp K G N μ H (.ref a) (.tup ds)) : Wk K G N μ H (Itt K a) ds := fun N' μ' H' hh hm nt => by
  obtain ⟨b, xs, e, hq, q⟩ := (r.imp hh hm).tup_of
  cases e
  refine ⟨fun i d hd => ?_, fun i hi => ⟨xs, hq, rps_none q hi⟩⟩
  obtain ⟨v, e, r'⟩ := q.get hd
  exact ⟨⟨xs, v, hq, e⟩, fun x H'' ⟨e1, e2⟩ => by
    subst e1
    have e3 := e2 xs hq
    rw [e] at e3
    cases e3
    exact ⟨Same.refl _, r'⟩⟩
theorem wk_rng {lo : Int} {n : Nat} : Wk K G N μ H (Itr lo n) ((List.range n).map fun (k : Nat) => D.int (lo + k)) := fun N' μ' H' hh hm nt => by
  refine ⟨fun i d hd => ?_, fun i hi => by simp at hi; exact hi⟩
  rw [List.getElem?_map] at hd
  by_cases hl : i < n
  · rw [List.getElem?_range hl] at hd
    cases hd
    exact ⟨hl, fun x H'' ⟨e1, e2⟩ => by subst e1; subst e2; exact ⟨Same.refl _, .int _⟩⟩
  · rw [List.getElem?_eq_none (by simpa using hl)] at hd; cases hd
theorem wk_rngDn {lo : Int} {n : Nat} : Wk K G N μ H (Itc lo (-1) n) ((List.range n).map fun (k : Nat) => D.int (lo - k)) := fun N' μ' H' hh hm nt => by
  refine ⟨fun i d hd => ?_, fun i hi => by simp at hi; exact hi⟩
  rw [List.getElem?_map] at hd
  by_cases hl : i < n
  · rw [List.getElem?_range hl] at hd
    cases hd
    exact ⟨hl, fun x H'' ⟨e1, e2⟩ => by
      subst e1; subst e2
      have e : lo + (i : Int) * (-1) = lo - i := by omega
      rw [e]
      exact ⟨Same.refl _, .int _⟩⟩
  · rw [List.getElem?_eq_none (by simpa using hl)] at hd; cases hd
theorem zips_get : ∀ {xs ys : List D} {i : Nat} {d : D}, (zips xs ys)[i]? = some d → ∃ x y, xs[i]? = some x ∧ ys[i]? = some y ∧ d = .tup [x, y]
  | [], _, i, d, h => by simp [zips] at h
  | _ :: _, [], i, d, h => by simp [zips] at h
  | x :: xs, y :: ys, 0, d, h => by simp [zips] at h; exact ⟨x, y, rfl, rfl, h.symm⟩
  | x :: xs, y :: ys, i + 1, d, h => by
    have h' : (zips xs ys)[i]? = some d := by simpa [zips] using h
    simpa using zips_get h'
theorem zips_len : ∀ {xs ys : List D} {i : Nat}, (zips xs ys).length ≤ i → xs.length ≤ i ∨ ys.length ≤ i
  | [], _, i, _ => .inl (Nat.zero_le _)
  | _ :: _, [], i, _ => .inr (Nat.zero_le _)
  | x :: xs, y :: ys, 0, h => by simp [zips] at h
  | x :: xs, y :: ys, i + 1, h => by
    have h' : (zips xs ys).length ≤ i := by simpa [zips] using h
    rcases zips_len h' with z | z
    · exact .inl (by simpa using z)
    · exact .inr (by simpa using z)
theorem wk_zipL {a b : Addr} {ds es : List D} (r : Rp K G N μ H (.ref a) (.lst ds)) (r2 : Rp K G N μ H (.ref b) (.lst es)) : Wk K G N μ H (Itz K a b) (zips ds es) := fun N' μ' H' hh hm nt => by
  obtain ⟨_, xs, e, hq, q⟩ := (r.imp hh hm).lst_of
  cases e
  obtain ⟨_, ys, e, hq2, q2⟩ := (r2.imp hh hm).lst_of
  cases e
  refine ⟨fun i d hd => ?_, fun i hi => ⟨xs, ys, hq, hq2, (zips_len hi).imp (rps_none q) (rps_none q2)⟩⟩
  obtain ⟨dx, dy, h1, h2, rfl⟩ := zips_get hd
  obtain ⟨v, e, r'⟩ := q.get h1
  obtain ⟨v2, e2, r2'⟩ := q2.get h2
  exact ⟨⟨xs, ys, v, v2, hq, hq2, e, e2⟩, fun x H'' ⟨T, x1, x2, ex, hT, eH, f1, f2⟩ => by
    have e3 := f1 xs hq
    have e4 := f2 ys hq2
    rw [e] at e3
    rw [e2] at e4
    cases e3; cases e4
    subst ex; subst eH
    exact ⟨same_upd hT, Rp.newT nt hT (.cons r' (.cons r2' .nil))⟩⟩
theorem wk_zipT {a b : Addr} {ds es : List D} (r : Rp K G N μ H (.ref a) (.tup ds)) (r2 : Rp K G N μ H (.ref b) (.tup es)) : Wk K G N μ H (ItzT K a b) (zips ds es) := fun N' μ' H' hh hm nt => by
  obtain ⟨_, xs, e, hq, q⟩ := (r.imp hh hm).tup_of
  cases e
  obtain ⟨_, ys, e, hq2, q2⟩ := (r2.imp hh hm).tup_of
  cases e
  refine ⟨fun i d hd => ?_, fun i hi => ⟨xs, ys, hq, hq2, (zips_len hi).imp (rps_none q) (rps_none q2)⟩⟩
  obtain ⟨dx, dy, h1, h2, rfl⟩ := zips_get hd
  obtain ⟨v, e, r'⟩ := q.get h1
  obtain ⟨v2, e2, r2'⟩ := q2.get h2
  exact ⟨⟨xs, ys, v, v2, hq, hq2, e, e2⟩, fun x H'' ⟨T, x1, x2, ex, hT, eH, f1, f2⟩ => by
    have e3 := f1 xs hq
    have e4 := f2 ys hq2
    rw [e] at e3
    rw [e2] at e4
    cases e3; cases e4
    subst ex; subst eH
    exact ⟨same_upd hT, Rp.newT nt hT (.cons r' (.cons r2' .nil))⟩⟩
end
section
variable {X : Cx} {G : Gx} {W : WX} {n k : Nat} {pos : Pos} {tg a b c e : Expr} {ia ib ic ie : Ex}
abbrev evi (G : Gx) (n : Nat) (i : Itx) := evI (callF G.Φ G.Λ G.nm G.F n) i
def tI (K : PySem.W.Frag) (G : Gx) (W : WX) (n : Nat) (i : Itx) : TI := TX K G W (Wk K G) (evi G n i)
theorem pi_seq {l : Expr} {tl : TE} (hl : PE X l tl) : PI X tg l (fun σ H R => tl σ H fun x H1 => ∃ a, x = .ref a ∧ (((∃ xs, SqL X.K H1 a xs) ∧ R (Itl X.K a) H1) ∨ ((∃ xs, SqT X.K H1 a xs) ∧ R (Itt X.K a) H1))) := by
  refine ⟨fun pins s σ H R I h => ?_⟩
  refine thn (hl.run pins s σ H _ I h) fun v s1 ⟨x, H1, I1, r1, q1⟩ => ?_
  obtain ⟨a, e, q⟩ := q1
  subst e
  cases r1
  rcases q with ⟨⟨xs, hq⟩, q⟩ | ⟨⟨xs, hq⟩, q⟩
  · obtain ⟨its, rv, p, hz⟩ := I1.list hq
    refine wpAny_pyIter_list p.isList ?_
    refine ⟨s1.heap.objs.size, [s1.heap.objs.size], _, _, H1, rfl, I1.kept (t' := s1.toks) fun b o e => Heap.get?_push_of_some _ e, turn_list a _, ⟨_, Heap.get?_push_size _ rfl, rfl, rfl⟩, fun b hb => ?_, q⟩
    have e : b = s1.heap.objs.size := by simpa using hb
    subst e
    exact I1.fpOk (Nat.le_refl _) (I1.hok.fresh (Nat.le_refl _))
  · obtain ⟨its, rv, p, hz⟩ := I1.tuple hq
    refine wpAny_pyIter_tuple (show s1.heap.IsTuple a its.toArray from p) ?_
    refine ⟨s1.heap.objs.size, [s1.heap.objs.size], _, _, H1, rfl, I1.kept (t' := s1.toks) fun b o e => Heap.get?_push_of_some _ e, turn_tuple a _, ⟨_, Heap.get?_push_size _ rfl, rfl, rfl⟩, fun b hb => ?_, q⟩
    have e : b = s1.heap.objs.size := by simpa using hb
    subst e
    exact I1.fpOk (Nat.le_refl _) (I1.hok.fresh (Nat.le_refl _))
theorem i_over (he : PE X e (tE X.K G W n ie)) : PI X tg e (tI X.K G W n (.over ie)) := by
  refine (pi_seq he).imp fun σ H R ⟨fr, μ, O, ρ, S, rel, h⟩ => ?_
  refine ⟨fr, μ, O, ρ, S, rel, (End.bind (RR := Rp X.K G) h).mono fun x H1 ⟨d, S1, μ1, s1, rel1, r1, h1⟩ => ?_⟩
  cases d <;> try exact h1.elim
  case tup ds =>
    obtain ⟨a, xs, rfl, hq, q⟩ := r1.tup_of
    exact ⟨a, rfl, .inr ⟨⟨xs, hq⟩, End.fin h1 rel1 (Same.refl _) (wk_tup r1)⟩⟩
  case lst ds =>
    obtain ⟨a, xs, rfl, hq, q⟩ := r1.lst_of
    exact ⟨a, rfl, .inl ⟨⟨xs, hq⟩, End.fin h1 rel1 (Same.refl _) (wk_list r1)⟩⟩
theorem rng_some {i j : Int} {ds : List D} (h : rng i j = some ds) : (-(2 ^ 62) ≤ i ∧ i < 2 ^ 62 ∧ -(2 ^ 62) ≤ j ∧ j < 2 ^ 62) ∧ ds = (List.range (j - i).toNat).map fun (k : Nat) => D.int (i + k) := by
  unfold rng at h
  split at h
  · rename_i hc
    simp only [Bool.and_eq_true, decide_eq_true_eq] at hc
    exact ⟨⟨hc.1.1.1, hc.1.1.2, hc.1.2, hc.2⟩, (Option.some.inj h).symm⟩
  · cases h
theorem rngDn_some {i j : Int} {ds : List D} (h : rngDn i j = some ds) : (-(2 ^ 62) ≤ i ∧ i < 2 ^ 62 ∧ -(2 ^ 62) ≤ j ∧ j < 2 ^ 62) ∧ ds = (List.range (i - j).toNat).map fun (k : Nat) => D.int (i - k) := by
  unfold rngDn at h
  split at h
  · rename_i hc
    simp only [Bool.and_eq_true, decide_eq_true_eq] at hc
    exact ⟨⟨hc.1.1.1, hc.1.1.2, hc.1.2, hc.2⟩, (Option.some.inj h).symm⟩
  · cases h
theorem a_one (ha : PE X a (tE X.K G W n ia)) (hs : starEach [a] X.env = [(false, eval a X.env)]) : PA X [a] (tA X.K G W n (.cons ia .nil)) := a_cons ha a_nil hs
theorem evs_one {ρ : Env} {S : Store} : evs G n (.cons ia .nil) ρ S = (ev G n ia ρ S).bind fun x S1 => .ok [x] S1 := rfl
theorem End.one {α β : Type} {RR : (Addr → Prop) → List Addr → Hp → β → α → Prop} {fr : Fr} {μ O : List Addr} {H : Hp} {σ : St} {ρ : Env} {S : Store} {f : D → Store → Rs α} {Q : β → Hp → Prop} {R : List V → Hp → Prop}
    (h : End X.K G W RR fr μ O H σ ρ ((ev G n ia ρ S).bind f) Q)
    (hr : ∀ x dx S2 μ2 H2, Step μ [] H μ2 [] H2 → Rel X.K G fr μ2 O H2 σ ρ S2 → Rp X.K G (NN fr.M O μ2) μ2 H2 x dx → End X.K G W RR fr μ2 O H2 σ ρ (f dx S2) Q → R [x] H2) :
    End X.K G W (Rps X.K G) fr μ O H σ ρ (evs G n (.cons ia .nil) ρ S) R := by
  rw [evs_one]
  cases e1 : ev G n ia ρ S with
  | exc c S1 => rw [e1] at h; exact h
  | bad => rw [e1] at h; exact h
  | ok d S1 =>
    rw [e1] at h
    have h : End X.K G W RR fr μ O H σ ρ (f d S1) Q := h
    intro vs H2 μ2 s2 rel2 r
    obtain ⟨x, rfl, rx⟩ := arg1 r
    exact hr x d S1 μ2 H2 s2 rel2 rx (End.later s2 h)
/-- range(a) -/
theorem i_range1 {p : Pos} (hg : Gl X "range") (hm : X.mg "range" = none) (ha : PE X a (tE X.K G W n ia)) (hs : starEach [a] X.env = [(false, eval a X.env)] := by rfl) : PI X tg (.Call (.Name "range" p) [a] [] pos) (tI X.K G W n (.range1 ia)) := by
  refine (pi_range1 hg hm (a_one ha hs) hs).imp fun σ H R ⟨fr, μ, O, ρ, S, rel, h⟩ => ?_
  refine ⟨fr, μ, O, ρ, S, rel, End.one h fun x dx S2 μ2 H2 s2 rel2 rx h2 => ?_⟩
  cases dx <;> try exact h2.elim
  cases rx
  obtain ⟨ds, e2, h2⟩ := End.of_some h2
  obtain ⟨⟨_, _, h3, h4⟩, rfl⟩ := rng_some e2
  exact ⟨_, rfl, h3, h4, End.fin h2 rel2 (Same.refl _) (by rw [Int.sub_zero]; exact wk_rng)⟩
theorem evs_two {ρ : Env} {S : Store} : evs G n (.cons ia (.cons ib .nil)) ρ S = (ev G n ia ρ S).bind fun x S1 => (ev G n ib ρ S1).bind fun y S2 => .ok [x, y] S2 := by
  show (ev G n ia ρ S).bind (fun d S1 => ((ev G n ib ρ S1).bind fun d2 S2 => Rs.ok [d2] S2).bind fun ds S3 => Rs.ok (d :: ds) S3) = _
  congr 1
  funext x S1
  cases ev G n ib ρ S1 <;> rfl
theorem End.two {α β : Type} {RR : (Addr → Prop) → List Addr → Hp → β → α → Prop} {fr : Fr} {μ O : List Addr} {H : Hp} {σ : St} {ρ : Env} {S : Store} {f : D → D → Store → Rs α} {Q : β → Hp → Prop} {R : List V → Hp → Prop}
    (h : End X.K G W RR fr μ O H σ ρ ((ev G n ia ρ S).bind fun x S1 => (ev G n ib ρ S1).bind fun y S2 => f x y S2) Q)
    (hr : ∀ x y dx dy S2 μ2 H2, Step μ [] H μ2 [] H2 → Rel X.K G fr μ2 O H2 σ ρ S2 → Rp X.K G (NN fr.M O μ2) μ2 H2 x dx → Rp X.K G (NN fr.M O μ2) μ2 H2 y dy → End X.K G W RR fr μ2 O H2 σ ρ (f dx dy S2) Q → R [x, y] H2) :
    End X.K G W (Rps X.K G) fr μ O H σ ρ (evs G n (.cons ia (.cons ib .nil)) ρ S) R := by
  rw [evs_two]
  cases e1 : ev G n ia ρ S with
  | exc c S1 => rw [e1] at h; exact h
  | bad => rw [e1] at h; exact h
  | ok d S1 =>
    rw [e1] at h
    have h : End X.K G W RR fr μ O H σ ρ ((ev G n ib ρ S1).bind fun y S2 => f d y S2) Q := h
    show End X.K G W (Rps X.K G) fr μ O H σ ρ ((ev G n ib ρ S1).bind fun y S2 => .ok [d, y] S2) R
    cases e2 : ev G n ib ρ S1 with
    | exc c S1 => rw [e2] at h; exact h
    | bad => rw [e2] at h; exact h
    | ok d2 S2 =>
      rw [e2] at h
      have h : End X.K G W RR fr μ O H σ ρ (f d d2 S2) Q := h
      intro vs H2 μ2 s2 rel2 r
      obtain ⟨x, y, rfl, rx, ry⟩ := arg2 r
      exact hr x y d d2 S2 μ2 H2 s2 rel2 rx ry (End.later s2 h)
theorem a_two (ha : PE X a (tE X.K G W n ia)) (hb : PE X b (tE X.K G W n ib)) (hs : starEach [a, b] X.env = (false, eval a X.env) :: starEach [b] X.env) (hs2 : starEach [b] X.env = [(false, eval b X.env)]) : PA X [a, b] (tA X.K G W n (.cons ia (.cons ib .nil))) := a_cons ha (a_one hb hs2) hs
theorem i_range2 {p : Pos} (hg : Gl X "range") (hm : X.mg "range" = none) (ha : PE X a (tE X.K G W n ia)) (hb : PE X b (tE X.K G W n ib)) (hs : starEach [a, b] X.env = [(false, eval a X.env), (false, eval b X.env)] := by rfl) (hs2 : starEach [b] X.env = [(false, eval b X.env)] := by rfl) :
    PI X tg (.Call (.Name "range" p) [a, b] [] pos) (tI X.K G W n (.range2 ia ib)) := by
  refine (pi_range2 hg hm (a_two ha hb (by rw [hs, hs2]) hs2) hs hs2).imp fun σ H R ⟨fr, μ, O, ρ, S, rel, h⟩ => ?_
  refine ⟨fr, μ, O, ρ, S, rel, End.two h fun x y dx dy S2 μ2 H2 s2 rel2 rx ry h2 => ?_⟩
  cases dx <;> cases dy <;> try exact h2.elim
  cases rx; cases ry
  obtain ⟨ds, e2, h2⟩ := End.of_some h2
  obtain ⟨hc, rfl⟩ := rng_some e2
  exact ⟨_, _, rfl, hc, End.fin h2 rel2 (Same.refl _) wk_rng⟩
theorem evs_three {ρ : Env} {S : Store} : evs G n (.cons ia (.cons ib (.cons ic .nil))) ρ S = (ev G n ia ρ S).bind fun x S1 => (ev G n ib ρ S1).bind fun y S2 => (ev G n ic ρ S2).bind fun z S3 => .ok [x, y, z] S3 := by
  show (ev G n ia ρ S).bind (fun d S1 => (evs G n (.cons ib (.cons ic .nil)) ρ S1).bind fun ds S3 => Rs.ok (d :: ds) S3) = _
  congr 1
  funext x S1
  rw [evs_two]
  cases ev G n ib ρ S1 with
  | ok d S2 =>
    show ((ev G n ic ρ S2).bind fun z S3 => Rs.ok [d, z] S3).bind _ = (ev G n ic ρ S2).bind _
    cases ev G n ic ρ S2 <;> rfl
  | exc c S2 => rfl
  | bad => rfl
theorem End.three {α β : Type} {RR : (Addr → Prop) → List Addr → Hp → β → α → Prop} {fr : Fr} {μ O : List Addr} {H : Hp} {σ : St} {ρ : Env} {S : Store} {f : D → D → D → Store → Rs α} {Q : β → Hp → Prop} {R : List V → Hp → Prop}
    (h : End X.K G W RR fr μ O H σ ρ ((ev G n ia ρ S).bind fun x S1 => (ev G n ib ρ S1).bind fun y S2 => (ev G n ic ρ S2).bind fun z S3 => f x y z S3) Q)
    (hr : ∀ x y z dx dy dz S2 μ2 H2, Step μ [] H μ2 [] H2 → Rel X.K G fr μ2 O H2 σ ρ S2 → Rp X.K G (NN fr.M O μ2) μ2 H2 x dx → Rp X.K G (NN fr.M O μ2) μ2 H2 y dy → Rp X.K G (NN fr.M O μ2) μ2 H2 z dz → End X.K G W RR fr μ2 O H2 σ ρ (f dx dy dz S2) Q → R [x, y, z] H2) :
    End X.K G W (Rps X.K G) fr μ O H σ ρ (evs G n (.cons ia (.cons ib (.cons ic .nil))) ρ S) R := by
  rw [evs_three]
  cases e1 : ev G n ia ρ S with
  | exc c S1 => rw [e1] at h; exact h
  | bad => rw [e1] at h; exact h
  | ok d S1 =>
    rw [e1] at h
    have h : End X.K G W RR fr μ O H σ ρ ((ev G n ib ρ S1).bind fun y S2 => (ev G n ic ρ S2).bind fun z S3 => f d y z S3) Q := h
    show End X.K G W (Rps X.K G) fr μ O H σ ρ ((ev G n ib ρ S1).bind fun y S2 => (ev G n ic ρ S2).bind fun z S3 => .ok [d, y, z] S3) R
    cases e2 : ev G n ib ρ S1 with
    | exc c S1 => rw [e2] at h; exact h
    | bad => rw [e2] at h; exact h
    | ok d2 S2 =>
      rw [e2] at h
      have h : End X.K G W RR fr μ O H σ ρ ((ev G n ic ρ S2).bind fun z S3 => f d d2 z S3) Q := h
      show End X.K G W (Rps X.K G) fr μ O H σ ρ ((ev G n ic ρ S2).bind fun z S3 => .ok [d, d2, z] S3) R
      cases e3 : ev G n ic ρ S2 with
      | exc c S1 => rw [e3] at h; exact h
      | bad => rw [e3] at h; exact h
      | ok d3 S3 =>
        rw [e3] at h
        have h : End X.K G W RR fr μ O H σ ρ (f d d2 d3 S3) Q := h
        intro vs H2 μ2 s2 rel2 r
        cases r with
        | cons rx r =>
          obtain ⟨y, z, rfl, ry, rz⟩ := arg2 r
          exact hr _ y z d d2 d3 S3 μ2 H2 s2 rel2 rx ry rz (End.later s2 h)
theorem i_range3 {p : Pos} (hg : Gl X "range") (hm : X.mg "range" = none) (ha : PE X a (tE X.K G W n ia)) (hb : PE X b (tE X.K G W n ib)) (hc : PE X c (tE X.K G W n ic))
    (hs : starEach [a, b, c] X.env = (false, eval a X.env) :: starEach [b, c] X.env := by rfl) (hs2 : starEach [b, c] X.env = (false, eval b X.env) :: starEach [c] X.env := by rfl) (hs3 : starEach [c] X.env = [(false, eval c X.env)] := by rfl)
    (hpl : (backTo pos (starEach [b, c] X.env)).any (·.1) = false := by rfl) :
    PI X tg (.Call (.Name "range" p) [a, b, c] [] pos) (tI X.K G W n (.range3 ia ib ic)) := by
  refine (pi_range3 hg hm (a_cons ha (a_two hb hc hs2 hs3) hs) hs hpl).imp fun σ H R ⟨fr, μ, O, ρ, S, rel, h⟩ => ?_
  refine ⟨fr, μ, O, ρ, S, rel, End.three h fun x y z dx dy dz S2 μ2 H2 s2 rel2 rx ry rz h2 => ?_⟩
  split at h2
  · cases rx; cases ry; cases rz
    obtain ⟨ds, e2, h2⟩ := End.of_some h2
    obtain ⟨⟨h3, h4, h5, h6⟩, rfl⟩ := rngDn_some e2
    exact ⟨_, _, _, _, rfl, RgC.neg h3 h4 h5 h6, End.fin h2 rel2 (Same.refl _) wk_rngDn⟩
  · exact h2.elim
theorem i_zip {p tpos : Pos} {elts : List Expr} {kk : Nat} (hg : Gl X "zip") (hm : X.mg "zip" = none) (ha : PE X a (tE X.K G W n ia)) (hb : PE X b (tE X.K G W n ib)) (hs : starEach [a, b] X.env = (false, eval a X.env) :: starEach [b] X.env := by rfl) (hs2 : starEach [b] X.env = [(false, eval b X.env)] := by rfl) (hpl : (backTo pos (starEach [b] X.env)).any (·.1) = false := by rfl) :
    PI X (.Tuple elts kk tpos) (.Call (.Name "zip" p) [a, b] [] pos) (tI X.K G W n (.zip ia ib)) := by
  refine (pi_zipA hg hm (a_two ha hb hs hs2) hs hpl).imp fun σ H R ⟨fr, μ, O, ρ, S, rel, h⟩ => ?_
  refine ⟨fr, μ, O, ρ, S, rel, End.two h fun x y dx dy S2 μ2 H2 s2 rel2 rx ry h2 => ?_⟩
  cases dx <;> cases dy <;> try exact h2.elim
  case tup.tup =>
    obtain ⟨_, xs, rfl, hq, _⟩ := rx.tup_of
    obtain ⟨_, ys, rfl, hq2, _⟩ := ry.tup_of
    exact ⟨_, _, xs, ys, rfl, .inr ⟨hq, hq2, End.fin h2 rel2 (Same.refl _) (wk_zipT rx ry)⟩⟩
  case lst.lst =>
    obtain ⟨_, xs, rfl, hq, _⟩ := rx.lst_of
    obtain ⟨_, ys, rfl, hq2, _⟩ := ry.lst_of
    exact ⟨_, _, xs, ys, rfl, .inl ⟨hq, hq2, End.fin h2 rel2 (Same.refl _) (wk_zipL rx ry)⟩⟩
end
end Iv
/-! Iv7: comprehensions. -/
namespace Iv
open PySem PySem.Spec PyProof.Rows L2
/-- nothing is let out -/
def WF : WX := fun _ _ _ _ => False
theorem put_get : ∀ {p : Pt} {d : D} {ρ ρ1 : Env}, p.put d ρ = some ρ1 → ∀ j, j ∉ p.vars → ρ1[j]? = ρ[j]?
  | .nm i, d, ρ, ρ1, h, j, hj => by
    cases h
    exact List.getElem?_set_ne fun z => hj (by simp [Pt.vars, z])
  | .p2 a b, d, ρ, ρ1, h, j, hj => by
    obtain ⟨_, _, _, _, e1, e2⟩ := put_p2 h
    simp only [Pt.vars, List.mem_append, not_or] at hj
    rw [put_get e2 j hj.2, put_get e1 j hj.1]
  | .p3 a b c, d, ρ, ρ1, h, j, hj => by
    obtain ⟨_, _, _, _, _, _, e1, e2, e3⟩ := put_p3 h
    simp only [Pt.vars, List.mem_append, not_or] at hj
    rw [put_get e3 j hj.2, put_get e2 j hj.1.2, put_get e1 j hj.1.1]
  | .p4 a b c f, d, ρ, ρ1, h, j, hj => by
    obtain ⟨_, _, _, _, _, _, _, _, e1, e2, e3, e4⟩ := put_p4 h
    simp only [Pt.vars, List.mem_append, not_or] at hj
    rw [put_get e4 j hj.2, put_get e3 j hj.1.2, put_get e2 j hj.1.1.2, put_get e1 j hj.1.1.1]
theorem put_len : ∀ {p : Pt} {d : D} {ρ ρ1 : Env}, p.put d ρ = some ρ1 → ρ1.length = ρ.length
  | .nm i, d, ρ, ρ1, h => by cases h; exact List.length_set
  | .p2 a b, d, ρ, ρ1, h => by
    obtain ⟨_, _, _, _, e1, e2⟩ := put_p2 h
    rw [put_len e2, put_len e1]
  | .p3 a b c, d, ρ, ρ1, h => by
    obtain ⟨_, _, _, _, _, _, e1, e2, e3⟩ := put_p3 h
    rw [put_len e3, put_len e2, put_len e1]
  | .p4 a b c f, d, ρ, ρ1, h => by
    obtain ⟨_, _, _, _, _, _, _, _, e1, e2, e3, e4⟩ := put_p4 h
    rw [put_len e4, put_len e3, put_len e2, put_len e1]
theorem wipes_eq {ρ ρ1 : Env} {vs : List Nat} (hl : ρ1.length = ρ.length) (h : ∀ j, j ∉ vs → ρ1[j]? = ρ[j]?) : wipes ρ1 vs = wipes ρ vs := by
  apply List.ext_getElem?
  intro j
  rw [wipes_get, wipes_get, hl]
  by_cases hj : j ∈ vs
  · by_cases hk : j < ρ.length
    · simp [hj, hk]
    · simp [hk, List.getElem?_eq_none (Nat.le_of_not_lt hk), List.getElem?_eq_none (Nat.le_of_not_lt (hl ▸ hk))]
  · simp [hj, h j hj]
theorem wipes_out {ρ : Env} {vs : List Nat} {j : Nat} (h : j ∉ vs) : (wipes ρ vs)[j]? = ρ[j]? := by rw [wipes_get, if_neg fun z => h z.1]
theorem wipes_wipes {ρ : Env} {vs : List Nat} : wipes (wipes ρ vs) vs = wipes ρ vs := wipes_eq (wipes_length ρ vs) fun j hj => wipes_out hj
theorem wipes_put {p : Pt} {d : D} {ρ ρ1 : Env} {vs : List Nat} (h : p.put d (wipes ρ vs) = some ρ1) (hv : ∀ j ∈ p.vars, j ∈ vs) : wipes ρ1 vs = wipes ρ vs := by
  rw [← wipes_wipes (ρ := ρ)]
  exact wipes_eq (put_len h) fun j hj => put_get h j fun z => hj (hv j z)
theorem put_val : ∀ {p : Pt} {d : D} {ρ ρ1 : Env}, p.put d ρ = some ρ1 → ∀ {j : Nat}, j ∈ p.vars → ∀ {ds : List D}, ρ1[j]? ≠ some (.own ds)
  | .nm i, d, ρ, ρ1, h, j, hj, ds => by
    cases h
    have e : j = i := by simpa [Pt.vars] using hj
    subst e
    intro z
    rw [List.getElem?_set] at z
    rw [if_pos rfl] at z
    split at z <;> cases z
  | .p2 a b, d, ρ, ρ1, h, j, hj, ds => by
    obtain ⟨_, _, _, _, e1, e2⟩ := put_p2 h
    by_cases hb : j ∈ b.vars
    · exact put_val e2 hb
    · rw [put_get e2 j hb]
      simp only [Pt.vars, List.mem_append] at hj
      exact put_val e1 (hj.resolve_right hb)
  | .p3 a b c, d, ρ, ρ1, h, j, hj, ds => by
    obtain ⟨_, _, _, _, _, _, e1, e2, e3⟩ := put_p3 h
    by_cases hc : j ∈ c.vars
    · exact put_val e3 hc
    · rw [put_get e3 j hc]
      by_cases hb : j ∈ b.vars
      · exact put_val e2 hb
      · rw [put_get e2 j hb]
        simp only [Pt.vars, List.mem_append] at hj
        exact put_val e1 ((hj.resolve_right hc).resolve_right hb)
  | .p4 a b c f, d, ρ, ρ1, h, j, hj, ds => by
    obtain ⟨_, _, _, _, _, _, _, _, e1, e2, e3, e4⟩ := put_p4 h
    by_cases hf : j ∈ f.vars
    · exact put_val e4 hf
    · rw [put_get e4 j hf]
      by_cases hc : j ∈ c.vars
      · exact put_val e3 hc
      · rw [put_get e3 j hc]
        by_cases hb : j ∈ b.vars
        · exact put_val e2 hb
        · rw [put_get e2 j hb]
          simp only [Pt.vars, List.mem_append] at hj
          exact put_val e1 (((hj.resolve_right hf).resolve_right hc).resolve_right hb)
theorem wipe_sub {σ : St} {vs ws : List Nat} (h : ∀ j ∈ vs, j ∈ ws) : wipe (wipe σ vs) ws = wipe σ ws := wipe_eq (wipe_length σ vs) fun j hj => wipe_out fun z => hj (h j z)
theorem wipes_sub {ρ : Env} {vs ws : List Nat} (h : ∀ j ∈ vs, j ∈ ws) : wipes (wipes ρ vs) ws = wipes ρ ws := wipes_eq (wipes_length ρ vs) fun j hj => wipes_out fun z => hj (h j z)
section
variable {K : PySem.W.Frag} {G : Gx} {fr : Fr} {μ μ' O : List Addr} {H H' : Hp} {σ : St} {ρ : Env} {S : Store}
theorem Step.grow {L : Addr} (s : Step μ [] H μ' [] H') (h : H L = none) : Step μ O H μ' (L :: O) H' := ⟨fun b o e m _ t => s.ext b o e m (by simp) t, s.trk, s.mu, fun a ha => by
  rcases List.mem_cons.mp ha with z | z
  · rw [z]; exact .inr h
  · exact .inl z⟩
theorem Step.skip {L : Addr} {o : HO} (s : Step μ [] H μ' [] H') (h : H L = none) : Step μ [] H μ' [] (upd H' L o) := ⟨fun b u e m q t => (upd_ne fun z => by rw [z, h] at e; cases e).trans (s.ext b u e m q t), fun b e => by
  by_cases z : b = L
  · rw [z, upd_same]; simp
  · rw [upd_ne z]; exact s.trk b e, s.mu, by simp⟩
theorem StOk.weak {N N' : Addr → Prop} (h : ∀ b, N' b → N b) (s : StOk K G N μ H S) : StOk K G N' μ H S := ⟨s.len, s.nd, fun n a o e1 e2 => (s.ob n a o e1 e2).imp (fun b o e n _ => ⟨e, fun z => n (h b z)⟩) (fun _ _ e => e) rfl⟩
theorem NN.cons {M : Addr → Prop} {L : Addr} : ∀ b, NN M O μ b → NN M (L :: O) μ b := fun b z => by
  rcases z with z | z | z
  · exact .inl z
  · exact .inr (.inl (List.mem_cons_of_mem _ z))
  · exact .inr (.inr z)
/-- where a comprehension's loop stands: L its list, da what is in it -/
structure LoopSt (K : PySem.W.Frag) (G : Gx) (fr : Fr) (μ0 O : List Addr) (H0 : Hp) (L : Addr) (σ : St) (ρ : Env) (μ : List Addr) (S : Store) (H : Hp) (da : List D) : Prop where
  step : Step μ0 [] H0 μ [] H
  rel : Rel K G fr μ (L :: O) H σ ρ S
  lst : ∃ acc, H L = some (.lst acc) ∧ Rps K G (NN fr.M (L :: O) μ) μ H acc da
end
section
variable {X : Cx} {G : Gx} {W : WX} {n : Nat}
def tCo (K : PySem.W.Frag) (G : Gx) (W : WX) (n : Nat) (c : Oex) : TT := TX K G W RId (evC (callF G.Φ G.Λ G.nm G.F n) c)
theorem c_none : PTs X [] (tCo X.K G W n .none) := ⟨fun pins s σ H Q I ⟨fr, μ, O, ρ, S, rel, h⟩ => pts_nil.run pins s σ H Q I (End.fin h rel (Same.refl _) rfl)⟩
theorem c_some {c : Expr} {ic : Ex} (h : PT X c (tT X.K G W n ic)) : PTs X [c] (tCo X.K G W n (.some ic)) := ⟨fun pins s σ H Q I w => (pts_one h).run pins s σ H Q I w⟩
abbrev evc (G : Gx) (n : Nat) (c : Oex) := evC (callF G.Φ G.Λ G.nm G.F n) c
abbrev elb (G : Gx) (n : Nat) (c : Oex) (e : Ex) := elemB (fun ρ S => evc G n c ρ S) (fun ρ S => ev G n e ρ S)
theorem loop_in {p : Pt} {c : Oex} {e : Ex} {vs : List Nat} (hv : ∀ j ∈ p.vars, j ∈ vs) {fr : Fr} {μ0 O : List Addr} {H0 : Hp} {L : Addr} {σ : St} {ρ : Env} (h0 : H0 L = none)
    (hno : ∀ (j : Nat) (ds : List D), (wipes ρ vs)[j]? = some (Sl.own ds) → (wipe σ vs)[j]? ≠ some (some (V.ref L)))
    {J : It} {xs : List D} {S2 : Store} {dr : List D} {Fin : Hp → Prop} {μ1 : List Addr} {S1 : Store} {H1 : Hp} {da : List D}
    (st : LoopSt X.K G fr μ0 O H0 L (wipe σ vs) (wipes ρ vs) μ1 S1 H1 da) (wk : Wk X.K G (NN fr.M (L :: O) μ1) μ1 H1 J xs)
    (hc : compLoop p (wipes ρ vs) (elb G n c e) xs S1 = .ok dr S2) (hb : (da ++ dr).length ≤ big)
    (fin : ∀ μ' H', LoopSt X.K G fr μ0 O H0 L (wipe σ vs) (wipes ρ vs) μ' S2 H' (da ++ dr) → Step μ1 (L :: O) H1 μ' (L :: O) H' → Fin H') :
    ∃ Wi : Nat → Nat → Hp → Prop, (∃ m, Wi 0 m H1) ∧ ∀ i m H, Wi i m H →
      (J.stop i H ∧ Fin H) ∨ (J.go i H ∧ ∃ Nx : Hp → Prop, (∀ H', Nx H' → ∃ m', m' < m ∧ Wi (i + 1) m' H') ∧ ∀ x H', J.yld i H x H' → tG X.K G p x (wipe σ vs) H' fun σ2 H2 => wipe σ2 vs = wipe σ vs ∧ tCo X.K G WF n c σ2 H2 fun b H3 =>
        if b = true then tE X.K G WF n e σ2 H3 fun y H4 => ∃ acc, H4 L = some (.lst acc) ∧ acc.length < sizeLine ∧ Nx (upd H4 L (.lst (acc ++ [y]))) else Nx H3) := by
  refine ⟨fun i m H => i ≤ xs.length ∧ m = xs.length - i ∧ ∃ μ S d1 d2, LoopSt X.K G fr μ0 O H0 L (wipe σ vs) (wipes ρ vs) μ S H d1 ∧ Step μ1 (L :: O) H1 μ (L :: O) H ∧ compLoop p (wipes ρ vs) (elb G n c e) (xs.drop i) S = .ok d2 S2 ∧ da ++ dr = d1 ++ d2,
    ⟨xs.length, Nat.zero_le _, by simp, μ1, S1, da, dr, st, Step.refl _ _ _, hc, rfl⟩, ?_⟩
  rintro i m H ⟨hi, rfl, μ, S, d1, d2, ls, sw, hl, hd⟩
  obtain ⟨wi, wo⟩ := wk (NN fr.M (L :: O) μ) μ H sw.imp sw.mus ls.rel.nt
  by_cases hlt : i < xs.length
  · have hx : xs[i]? = some xs[i] := List.getElem?_eq_getElem hlt
    obtain ⟨go, yld⟩ := wi i _ hx
    rw [List.drop_eq_getElem_cons hlt] at hl
    refine .inr ⟨go, _, fun H' nx => ⟨xs.length - (i + 1), by omega, nx⟩, fun x H' y => ?_⟩
    obtain ⟨sm, rx⟩ := yld x H' y
    generalize xs[i] = d at hl rx
    unfold compLoop at hl
    cases hp : p.put d (wipes ρ vs) with
    | none => rw [hp] at hl; cases hl
    | some ρ1 =>
      rw [hp] at hl
      have hl : (match elb G n c e ρ1 S with
        | .ok (some d) S1 => match compLoop p (wipes ρ vs) (elb G n c e) (xs.drop (i + 1)) S1 with | .ok ds S2 => .ok (d :: ds) S2 | _ => .bad
        | .ok none S1 => compLoop p (wipes ρ vs) (elb G n c e) (xs.drop (i + 1)) S1
        | _ => .bad) = Rs.ok d2 S2 := hl
      have rel' := ls.rel.same sm
      obtain ⟨acc, hL, ra⟩ := ls.lst
      refine ⟨fr, μ, L :: O, wipes ρ vs, S, d, ρ1, rel', rx, hp, fun σ2 rel2 k2 => ⟨?_, fr, μ, L :: O, ρ1, S, rel2, ?_⟩⟩
      · rw [← wipe_wipe (σ := σ)]
        exact wipe_eq (by rw [rel2.len, put_len hp, ls.rel.len]) fun j hj => k2 j fun z => hj (hv j z)
      · have ew : wipe σ2 vs = wipe σ vs := by
          rw [← wipe_wipe (σ := σ)]
          exact wipe_eq (by rw [rel2.len, put_len hp, ls.rel.len]) fun j hj => k2 j fun z => hj (hv j z)
        have er : wipes ρ1 vs = wipes ρ vs := wipes_put hp hv
        show End X.K G WF RId fr μ (L :: O) H' σ2 ρ1 (evc G n c ρ1 S) _
        cases hcv : evc G n c ρ1 S with
        | exc cc S3 => simp only [elb, elemB, hcv] at hl; cases hl
        | bad => simp only [elb, elemB, hcv] at hl; cases hl
        | ok b S3 =>
          rintro b' H3 μ3 s3 rel3 rfl
          have s03 : Step μ0 [] H0 μ3 [] H3 := (ls.step.trans (Step.same sm)).trans s3
          have hL3 : H3 L = some (.lst acc) := s3.ext L _ (sm _ _ hL) (ls.rel.oth L (by simp)).2 (by simp) (fun ps z => by cases z)
          have sO3 : Step μ (L :: O) H μ3 (L :: O) H3 := (Step.same sm).trans s3.more
          cases b' with
          | false =>
            simp only [elb, elemB, hcv] at hl
            rw [if_neg (by decide)]
            exact ⟨hlt, rfl, μ3, S3, d1, d2, ⟨s03, by have q := rel3.wipe vs; rw [ew, er] at q; exact q, acc, hL3, ra.step sO3⟩, sw.trans sO3, hl, hd⟩
          | true =>
            rw [if_pos rfl]
            refine ⟨fr, μ3, L :: O, ρ1, S3, rel3, ?_⟩
            show End X.K G WF (Rp X.K G) fr μ3 (L :: O) H3 σ2 ρ1 (ev G n e ρ1 S3) _
            cases hev : ev G n e ρ1 S3 with
            | exc cc S4 => simp only [elb, elemB, hcv, hev] at hl; cases hl
            | bad => simp only [elb, elemB, hcv, hev] at hl; cases hl
            | ok y S4 =>
              simp only [elb, elemB, hcv, hev] at hl
              cases hr : compLoop p (wipes ρ vs) (elb G n c e) (xs.drop (i + 1)) S4 with
              | exc cc S4 => rw [hr] at hl; cases hl
              | bad => rw [hr] at hl; cases hl
              | ok d3 S5 =>
                rw [hr] at hl
                cases hl
                intro v H4 μ4 s4 rel4 rv
                have hL4 : H4 L = some (.lst acc) := s4.ext L _ hL3 (rel3.oth L (by simp)).2 (by simp) (fun ps z => by cases z)
                have sO4 : Step μ (L :: O) H μ4 (L :: O) H4 := sO3.trans s4.more
                have ra4 := ra.step sO4
                refine ⟨acc, hL4, ?_, hlt, rfl, μ4, S4, d1 ++ [y], d3, ⟨(s03.trans s4).skip h0, ?_, acc ++ [v], upd_same, ?_⟩, ?_, hr, by rw [hd]; simp⟩
                · rw [ra4.length, ← big_eq]
                  rw [hd] at hb
                  simp at hb
                  omega
                · have q := rel4.wipe vs
                  rw [ew, er] at q
                  exact q.wr (by simp) hL4 rfl fun j s hs => .inl ⟨hs, fun ds e => hno j ds (by rw [hs, e])⟩
                · exact (ra4.app (.cons rv .nil)).imp (fun b o e nb _ => ⟨(upd_ne fun z => nb (.inr (.inl (by rw [z]; simp)))).trans e, nb⟩) fun _ _ e => e
                · exact sw.trans (sO4.trans ⟨fun b o e _ hO _ => (upd_ne fun z => hO (by rw [z]; simp)).trans e, fun b e => by
                    by_cases z : b = L
                    · rw [z, upd_same]; simp
                    · rw [upd_ne z]; exact e, ⟨[], by simp, by simp⟩, fun _ h => .inl h⟩)
  · have e : i = xs.length := by omega
    subst e
    refine .inl ⟨wo _ (Nat.le_refl _), ?_⟩
    rw [List.drop_length] at hl
    cases hl
    rw [List.append_nil] at hd
    exact fin μ H (by rw [hd]; exact ls) sw
theorem Bx.blk {W : WX} {k : Nat} (B : Bx X W k) (s : Shared) (H : Hp) (scope : Scope) (cenv : PySem.Env) (fp : List Addr) : Bx (X.blk s H scope cenv fp) WF k := ⟨B.calm, B.nd, fun u s' ⟨_, _, _, _, _, _, _, _, _, _, _, _, _, _, _, _, w⟩ => w.elim, PassesOwn.never, B.room⟩
/-- what a comprehension's start gives -/
theorem loop_start {fr : Fr} {μ1 O : List Addr} {H1 : Hp} {L : Addr} {σ : St} {ρ : Env} {S1 : Store} (rel1 : Rel X.K G fr μ1 O H1 σ ρ S1) (hL : H1 L = none) (vs : List Nat) :
    LoopSt X.K G fr μ1 O H1 L (wipe σ vs) (wipes ρ vs) μ1 S1 (upd H1 L (.lst [])) [] ∧ (∀ (j : Nat) (ds : List D), (wipes ρ vs)[j]? = some (Sl.own ds) → (wipe σ vs)[j]? ≠ some (some (V.ref L))) :=
  ⟨⟨Step.same (same_upd hL), (rel1.newO hL).wipe vs, [], upd_same, .nil⟩, fun j ds e z => by
    obtain ⟨a, xs, e1, _, e2, _⟩ := (rel1.wipe vs).env j _ e
    rw [z] at e1
    cases e1
    rw [hL] at e2
    cases e2⟩
/-- .. and its end -/
theorem loop_end {fr : Fr} {μ1 μ O : List Addr} {H1 H : Hp} {L : Addr} {σ σw : St} {ρ ρw : Env} {S1 S2 : Store} {ds : List D} {Q : VK} (rel1 : Rel X.K G fr μ1 O H1 σ ρ S1) (hL : H1 L = none) (ls : LoopSt X.K G fr μ1 O H1 L σw ρw μ S2 H ds)
    (h : End X.K G W (Rp X.K G) fr μ1 O H1 σ ρ (.ok (.lst ds) S2) Q) : Q (.ref L) H := by
  obtain ⟨acc, hH, ra⟩ := ls.lst
  have hLO : L ∉ O := fun z => (rel1.oth L z).1.ne hL
  refine h _ H μ ls.step (rel1.next ls.step (ls.rel.st.weak NN.cons) ls.rel.tabs) (.lst (.inl hH) (fun z => ?_) (ra.weak NN.cons))
  rcases z with z | z | z
  · exact rel1.nt L (.inl z) hL
  · exact hLO z
  · exact (ls.rel.oth L (by simp)).2 z
theorem comp_read {it : Itx} {p : Pt} {own : List Nat} {c : Oex} {e : Ex} {σ : St} {H : Hp} {Q : VK} (hv : ∀ j ∈ p.vars, j ∈ own) (h : tE X.K G W n (.comp it p own c e) σ H Q) :
    tLc (tI X.K G W n it) (tG X.K G p) (tCo X.K G WF n c) (tE X.K G WF n e) own σ H Q := by
  obtain ⟨fr, μ, O, ρ, S, rel, h⟩ := h
  refine ⟨fr, μ, O, ρ, S, rel, (End.bind0 (RR := Wk X.K G) h).mono fun J H1 ⟨xs, S1, μ1, s1, rel1, wk, h1⟩ => ?_⟩
  intro L hL
  have h1 : End X.K G W (Rp X.K G) fr μ1 O H1 σ ρ (match compLoop p (wipes ρ own) (elb G n c e) xs S1 with
    | .ok ds S2 => if ds.length ≤ big then .ok (.lst ds) S2 else .bad
    | _ => .bad) Q := h1
  cases hc : compLoop p (wipes ρ own) (elb G n c e) xs S1 with
  | exc cc S2 => rw [hc] at h1; exact h1.elim
  | bad => rw [hc] at h1; exact h1.elim
  | ok ds S2 =>
    rw [hc] at h1
    have h1 : End X.K G W (Rp X.K G) fr μ1 O H1 σ ρ (if ds.length ≤ big then .ok (.lst ds) S2 else .bad) Q := h1
    by_cases hb : ds.length ≤ big
    · rw [if_pos hb] at h1
      obtain ⟨ls, hno⟩ := loop_start rel1 hL own
      have sg : Step μ1 O H1 μ1 (L :: O) (upd H1 L (.lst [])) := (Step.same (O := []) (same_upd hL)).grow hL
      exact loop_in (da := []) hv hL hno ls (wk.later sg.imp sg.mus) hc hb fun μ' H' ls' _ => loop_end rel1 hL ls' h1
    · rw [if_neg hb] at h1; exact h1.elim
section
variable {k : Nat} {elt tg iter tg1 iter1 : Expr} {ifs ifs1 : List Expr} {scope : Scope} {own : List (Str × Nat)} {pos spos : Pos} {it it2 : Itx} {p p2 : Pt} {c : Oex} {e : Ex}
/-- what a comprehension's block must give -/
def BlkG (X : Cx) (G : Gx) (n k : Nat) (scope : Scope) (f : Cx → Prop) : Prop := ∀ (s : Shared) (H : Hp) (C : Addr) (cl : List (Str × Addr)) (fp : List Addr), Bx (X.blk s H scope (compEnvC scope cl C X.env) fp) WF k → f (X.blk s H scope (compEnvC scope cl C X.env) fp)
theorem e_comp (B : Bx X W k) (hi : PI X tg iter (tI X.K G W n it)) (ok : BlkOk X.N X.env.scope scope own) (hv : ∀ j ∈ p.vars, j ∈ own.map (·.2))
    (hx : BlkG X G n k scope fun Y => PG Y tg (tG X.K G p) ∧ PTs Y ifs (tCo X.K G WF n c) ∧ PE Y elt (tE X.K G WF n e))
    (hs : ∀ x, foldedSetIterable iter X.env x = pure x := by intro _; rfl) :
    PE X (.ListComp elt [⟨tg, iter, ifs, 0⟩] scope pos) (tE X.K G W n (.comp it p (own.map (·.2)) c e)) :=
  (pe_lc B.calm B.nd hi ok (fun s H C cl fp => (hx s H C cl fp (B.blk s H scope _ fp)).1) (fun s H C cl fp => (hx s H C cl fp (B.blk s H scope _ fp)).2.1)
    (fun s H C cl fp => (hx s H C cl fp (B.blk s H scope _ fp)).2.2) hs).imp fun σ H Q h => comp_read hv h
theorem comp2_read {it it2 : Itx} {p p2 : Pt} {own : List Nat} {c : Oex} {e : Ex} {σ : St} {H : Hp} {Q : VK} (hv : ∀ j ∈ p.vars, j ∈ own) (hv2 : ∀ j ∈ p2.vars, j ∈ own) (h : tE X.K G W n (.comp2 it p it2 p2 own c e) σ H Q) :
    tLc2 (tI X.K G W n it) (tG X.K G p) (tCo X.K G WF n .none) (tI X.K G WF n it2) (tG X.K G p2) (tCo X.K G WF n c) (tE X.K G WF n e) own p2.vars σ H Q := by
  obtain ⟨fr, μ, O, ρ, S, rel, h⟩ := h
  refine ⟨fr, μ, O, ρ, S, rel, (End.bind0 (RR := Wk X.K G) h).mono fun J H1 ⟨xs, S1, μ1, s1, rel1, wk, h1⟩ => ?_⟩
  intro L hL
  have h1 : End X.K G W (Rp X.K G) fr μ1 O H1 σ ρ (match compLoop2 p (wipes ρ own) (elem2 (fun ρ1 S => evi G n it2 ρ1 S) p2 (elb G n c e)) xs S1 with
    | .ok ds S2 => if ds.length ≤ big then .ok (.lst ds) S2 else .bad
    | _ => .bad) Q := h1
  cases hc : compLoop2 p (wipes ρ own) (elem2 (fun ρ1 S => evi G n it2 ρ1 S) p2 (elb G n c e)) xs S1 with
  | exc cc S2 => rw [hc] at h1; exact h1.elim
  | bad => rw [hc] at h1; exact h1.elim
  | ok ds S2 =>
    rw [hc] at h1
    have h1 : End X.K G W (Rp X.K G) fr μ1 O H1 σ ρ (if ds.length ≤ big then .ok (.lst ds) S2 else .bad) Q := h1
    by_cases hb : ds.length ≤ big
    · rw [if_pos hb] at h1
      obtain ⟨ls, hno⟩ := loop_start rel1 hL own
      have sg : Step μ1 O H1 μ1 (L :: O) (upd H1 L (.lst [])) := (Step.same (O := []) (same_upd hL)).grow hL
      have wk1 := wk.later (N' := NN fr.M (L :: O) μ1) sg.imp sg.mus
      refine ⟨fun i m H => i ≤ xs.length ∧ m = xs.length - i ∧ ∃ μ S d1 d2, LoopSt X.K G fr μ1 O H1 L (wipe σ own) (wipes ρ own) μ S H d1 ∧ Step μ1 (L :: O) (upd H1 L (.lst [])) μ (L :: O) H ∧ compLoop2 p (wipes ρ own) (elem2 (fun ρ1 S => evi G n it2 ρ1 S) p2 (elb G n c e)) (xs.drop i) S = .ok d2 S2 ∧ ds = d1 ++ d2,
        ⟨xs.length, Nat.zero_le _, by simp, μ1, S1, [], ds, ls, Step.refl _ _ _, hc, rfl⟩, ?_⟩
      rintro i m H ⟨hi, rfl, μ, S, d1, d2, ls, sw, hl, hd⟩
      obtain ⟨wi, wo⟩ := wk1 (NN fr.M (L :: O) μ) μ H sw.imp sw.mus ls.rel.nt
      by_cases hlt : i < xs.length
      · have hx : xs[i]? = some xs[i] := List.getElem?_eq_getElem hlt
        obtain ⟨go, yld⟩ := wi i _ hx
        rw [List.drop_eq_getElem_cons hlt] at hl
        refine .inr ⟨go, _, fun H' nx => ⟨xs.length - (i + 1), by omega, nx⟩, fun x H' y => ?_⟩
        obtain ⟨sm, rx⟩ := yld x H' y
        generalize xs[i] = d at hl rx
        unfold compLoop2 at hl
        cases hp : p.put d (wipes ρ own) with
        | none => rw [hp] at hl; cases hl
        | some ρ1 =>
          rw [hp] at hl
          have hl : (match elem2 (fun ρ1 S => evi G n it2 ρ1 S) p2 (elb G n c e) ρ1 S with
            | .ok d S1 => match compLoop2 p (wipes ρ own) (elem2 (fun ρ1 S => evi G n it2 ρ1 S) p2 (elb G n c e)) (xs.drop (i + 1)) S1 with | .ok ds S2 => .ok (d ++ ds) S2 | _ => .bad
            | _ => .bad) = Rs.ok d2 S2 := hl
          have rel' := ls.rel.same sm
          obtain ⟨acc, hLc, ra⟩ := ls.lst
          refine ⟨fr, μ, L :: O, wipes ρ own, S, d, ρ1, rel', rx, hp, fun σ2 rel2 k2 => ?_⟩
          have ew : wipe σ2 own = wipe σ own := by
            rw [← wipe_wipe (σ := σ)]
            exact wipe_eq (by rw [rel2.len, put_len hp, ls.rel.len]) fun j hj => k2 j fun z => hj (hv j z)
          have er : wipes ρ1 own = wipes ρ own := wipes_put hp hv
          refine ⟨ew, fr, μ, L :: O, ρ1, S, rel2, ?_⟩
          rintro b' H3 μ3 s3 rel3 rfl
          rw [if_pos rfl]
          refine ⟨fr, μ3, L :: O, ρ1, S, rel3, ?_⟩
          show End X.K G WF (Wk X.K G) fr μ3 (L :: O) H3 σ2 ρ1 (evi G n it2 ρ1 S) _
          cases hiv : evi G n it2 ρ1 S with
          | exc cc S3 => simp only [elem2, hiv] at hl; cases hl
          | bad => simp only [elem2, hiv] at hl; cases hl
          | ok ys S3 =>
            simp only [elem2, hiv] at hl
            cases hil : compLoop p2 (wipes ρ1 p2.vars) (elb G n c e) ys S3 with
            | exc cc S4 => rw [hil] at hl; cases hl
            | bad => rw [hil] at hl; cases hl
            | ok di S4 =>
              rw [hil] at hl
              have hl : (match compLoop2 p (wipes ρ own) (elem2 (fun ρ1 S => evi G n it2 ρ1 S) p2 (elb G n c e)) (xs.drop (i + 1)) S4 with | .ok ds S2 => .ok (di ++ ds) S2 | _ => .bad) = Rs.ok d2 S2 := hl
              cases hr : compLoop2 p (wipes ρ own) (elem2 (fun ρ1 S => evi G n it2 ρ1 S) p2 (elb G n c e)) (xs.drop (i + 1)) S4 with
              | exc cc S4 => rw [hr] at hl; cases hl
              | bad => rw [hr] at hl; cases hl
              | ok d3 S5 =>
                rw [hr] at hl
                cases hl
                intro J1 H4 μ4 s4 rel4 wk4
                have sm4 : Step μ [] H μ4 [] H4 := ((Step.same sm).trans s3).trans s4
                have s04 : Step μ1 [] H1 μ4 [] H4 := ls.step.trans sm4
                have hL4 : H4 L = some (.lst acc) := sm4.ext L _ hLc (ls.rel.oth L (by simp)).2 (by simp) (fun ps z => by cases z)
                have sO4 : Step μ (L :: O) H μ4 (L :: O) H4 := sm4.more
                have lsi : LoopSt X.K G fr μ1 O H1 L (wipe σ2 p2.vars) (wipes ρ1 p2.vars) μ4 S3 H4 d1 := ⟨s04, rel4.wipe _, acc, hL4, ra.step sO4⟩
                have hnoi : ∀ (j : Nat) (ds : List D), (wipes ρ1 p2.vars)[j]? = some (Sl.own ds) → (wipe σ2 p2.vars)[j]? ≠ some (some (V.ref L)) := fun j ds e => by
                  have hj : j ∉ p2.vars := fun z => by
                    rw [wipes_get] at e
                    by_cases hq : j < ρ1.length
                    · rw [if_pos ⟨z, hq⟩] at e; cases e
                    · rw [if_neg fun w => hq w.2, List.getElem?_eq_none (Nat.le_of_not_lt hq)] at e; cases e
                  rw [wipes_out hj] at e
                  rw [wipe_out hj]
                  intro z
                  by_cases hjo : j ∈ own
                  · -- an own name holds no list of the frame
                    by_cases hjp : j ∈ p.vars
                    · exact absurd e (put_val hp hjp)
                    · rw [put_get hp j hjp, wipes_get] at e
                      by_cases hq : j < ρ.length
                      · rw [if_pos ⟨hjo, hq⟩] at e; cases e
                      · rw [if_neg fun w => hq w.2, List.getElem?_eq_none (Nat.le_of_not_lt hq)] at e; cases e
                  · have e' : (wipes ρ own)[j]? = some (Sl.own ds) := by rw [← er, wipes_out hjo]; exact e
                    exact hno j ds e' (by rw [← ew, wipe_out hjo]; exact z)
                refine loop_in (fun j hj => hj) hL hnoi lsi wk4 hil (by rw [hd] at hb; simp at hb ⊢; omega) fun μ' H' ls' sw' => ?_
                refine ⟨hlt, rfl, μ', S4, d1 ++ di, d3, ⟨ls'.step, ?_, ls'.lst⟩, sw.trans (sO4.trans sw'), hr, by rw [hd]; simp⟩
                have q := ls'.rel.wipe own
                rw [wipe_sub hv2, wipes_sub hv2, ew, er] at q
                exact q
      · have e : i = xs.length := by omega
        subst e
        refine .inl ⟨wo _ (Nat.le_refl _), ?_⟩
        rw [List.drop_length] at hl
        cases hl
        rw [List.append_nil] at hd
        subst hd
        exact loop_end rel1 hL ls h1
    · rw [if_neg hb] at h1; exact h1.elim
theorem e_comp2 (B : Bx X W k) (hi : PI X tg iter (tI X.K G W n it)) (ok : BlkOk X.N X.env.scope scope own) (hv : ∀ j ∈ p.vars, j ∈ own.map (·.2)) (hv2 : ∀ j ∈ p2.vars, j ∈ own.map (·.2))
    (hx : BlkG X G n k scope fun Y => PG Y tg (tG X.K G p) ∧ PI Y tg1 iter1 (tI X.K G WF n it2) ∧ PG Y tg1 (tG X.K G p2) ∧ PTs Y ifs (tCo X.K G WF n c) ∧ PE Y elt (tE X.K G WF n e))
    (hs : ∀ x, foldedSetIterable iter X.env x = pure x := by intro _; rfl) (hs1 : ∀ env x, foldedSetIterable iter1 env x = pure x := by intro _ _; rfl) :
    PE X (.ListComp elt [⟨tg, iter, [], 0⟩, ⟨tg1, iter1, ifs, 0⟩] scope pos) (tE X.K G W n (.comp2 it p it2 p2 (own.map (·.2)) c e)) :=
  (pe_lc2 B.calm B.nd hi ok hv2 (fun s H C cl fp => (hx s H C cl fp (B.blk s H scope _ fp)).1) (fun s H C cl fp => c_none)
    (fun s H C cl fp => (hx s H C cl fp (B.blk s H scope _ fp)).2.1) (fun s H C cl fp => (hx s H C cl fp (B.blk s H scope _ fp)).2.2.1) (fun s H C cl fp => (hx s H C cl fp (B.blk s H scope _ fp)).2.2.2.1)
    (fun s H C cl fp => (hx s H C cl fp (B.blk s H scope _ fp)).2.2.2.2) hs hs1).imp fun σ H Q h => comp2_read hv hv2 h
end
end
end Iv
/-! Iv8: statements. -/
namespace Iv
open PySem PySem.Spec PyProof.Rows L2
def EndS (K : PySem.W.Frag) (G : Gx) (W : WX) (fr : Fr) (μ O : List Addr) (H : Hp) (r : Rs Ou) (D : Ends) : Prop :=
  match r with
  | .ok (.next ρ') S' => ∀ σ' H' μ' O', Step μ O H μ' O' H' → Rel K G fr μ' O' H' σ' ρ' S' → D.nx σ' H'
  | .ok (.ret d) S' => ∀ v H' μ', RelS K G fr μ' H' S' → Rp K G (NN fr.M [] μ') μ' H' v d → D.rt v H'
  | .exc c S' => ∀ σ' dd H' μ', XD G c dd → RelS K G fr μ' H' S' → W (.ref (G.cls c)) dd σ' H'
  | .bad => False
section
variable (K : PySem.W.Frag) (G : Gx) (W : WX) (n : Nat)
abbrev evs1 (s : Sx) := evS (callF G.Φ G.Λ G.nm G.F n) G.nm G.F s
abbrev evss (s : Sxs) := evSs (callF G.Φ G.Λ G.nm G.F n) G.nm G.F s
def tS (s : Sx) : TS := fun D σ H => ∃ fr μ O ρ S, Rel K G fr μ O H σ ρ S ∧ EndS K G W fr μ O H (evs1 G n s ρ S) D
def tSs (s : Sxs) : TS := fun D σ H => ∃ fr μ O ρ S, Rel K G fr μ O H σ ρ S ∧ EndS K G W fr μ O H (evss G n s ρ S) D
end
section
variable {K : PySem.W.Frag} {G : Gx} {W : WX} {n k : Nat} {fr : Fr} {μ μ' O O' : List Addr} {H H' : Hp} {σ : St} {ρ : Env} {S S' : Store}
theorem EndS.later {r : Rs Ou} {D : Ends} (s : Step μ O H μ' O' H') (h : EndS K G W fr μ O H r D) : EndS K G W fr μ' O' H' r D := by
  cases r with
  | ok o S' => cases o with
    | next ρ' => exact fun σ2 H2 μ2 O2 s2 => h σ2 H2 μ2 O2 (s.trans s2)
    | ret d => exact h
  | exc c S' => exact h
  | bad => exact h
/-- an expression, then the rest -/
theorem EndS.bindE {α β : Type} {RR : (Addr → Prop) → List Addr → Hp → β → α → Prop} {r : Rs α} {f : α → Store → Rs Ou} {D : Ends} (hW : ∀ c dd σ' H', W c dd σ' H' → W c dd σ H') (h : EndS K G W fr μ O H (r.bind f) D) :
    End K G W RR fr μ O H σ ρ r fun v H1 => ∃ d S1 μ1, Step μ O H μ1 O H1 ∧ Rel K G fr μ1 O H1 σ ρ S1 ∧ RR (NN fr.M O μ1) μ1 H1 v d ∧ EndS K G W fr μ1 O H1 (f d S1) D := by
  cases r with
  | ok d S' => exact fun v H1 μ1 s rel rr => ⟨d, S', μ1, s.more, rel, rr, EndS.later s.more h⟩
  | exc c S' => exact fun dd H1 μ1 xd rs => hW _ _ _ _ (h σ dd H1 μ1 xd rs)
  | bad => exact h
theorem EndS.bindE' {α β : Type} {RR : (Addr → Prop) → List Addr → Hp → β → α → Prop} {r : Rs α} {f : α → Store → Rs Ou} {D : Ends} (h : EndS K G W fr μ O H (r.bind f) D) :
    End K G W RR fr μ O H σ ρ r fun v H1 => ∃ d S1 μ1, Step μ O H μ1 O H1 ∧ Rel K G fr μ1 O H1 σ ρ S1 ∧ RR (NN fr.M O μ1) μ1 H1 v d ∧ EndS K G W fr μ1 O H1 (f d S1) D := by
  cases r with
  | ok d S' => exact fun v H1 μ1 s rel rr => ⟨d, S', μ1, s.more, rel, rr, EndS.later s.more h⟩
  | exc c S' => exact fun dd H1 μ1 xd rs => h σ dd H1 μ1 xd rs
  | bad => exact h
theorem EndS.nx {ρ' : Env} {D : Ends} {σ' : St} (h : EndS K G W fr μ O H (.ok (.next ρ') S) D) (s : Step μ O H μ' O' H') (rel : Rel K G fr μ' O' H' σ' ρ' S) : D.nx σ' H' := h σ' H' μ' O' s rel
/-- a new list of the frame in a slot -/
theorem Rel.putO {i : Nat} {p : Addr} {xs : List V} {ds : List D} (rel : Rel K G fr μ O H σ ρ S) (h : H p = none) (r : Rps K G (NN fr.M O μ) μ H xs ds) : Rel K G fr μ (p :: O) (upd H p (.lst xs)) (σ.set i (some (.ref p))) (ρ.set i (.own ds)) S := by
  have rel1 := rel.newO (xs := xs) h
  have r1 : Rps K G (NN fr.M (p :: O) μ) μ (upd H p (.lst xs)) xs ds := r.imp (fun b u e n _ => ⟨same_upd h b u e, fun z => by
    rcases z with z | z | z
    · exact n (.inl z)
    · rcases List.mem_cons.mp z with z | z
      · rw [z, h] at e; cases e
      · exact n (.inr (.inl z))
    · exact n (.inr (.inr z))⟩) fun _ _ e => e
  have old : ∀ (j : Nat) (es : List D), ρ[j]? = some (Sl.own es) → σ[j]? ≠ some (some (V.ref p)) := fun j es e z => by
    obtain ⟨a, ys, e1, _, e2, _⟩ := rel.env j _ e
    rw [z] at e1
    cases e1
    rw [h] at e2
    cases e2
  refine ⟨rel1.step, rel1.mtr, rel1.oth, rel1.st, rel1.tabs, by rw [List.length_set, List.length_set, rel.len], fun j s e => ?_, fun j k a fs gs e1 e2 e3 e4 => ?_⟩
  · rw [List.getElem?_set] at e ⊢
    by_cases hj : i = j
    · subst hj
      rw [if_pos rfl] at e ⊢
      by_cases hl : i < ρ.length
      · rw [if_pos hl] at e
        rw [if_pos (rel.len ▸ hl)]
        cases e
        exact ⟨p, xs, rfl, by simp, upd_same, r1⟩
      · rw [if_neg hl] at e; cases e
    · rw [if_neg hj] at e ⊢
      exact rel1.env j s e
  · have g : ∀ (j : Nat) (fs : List D), (ρ.set i (Sl.own ds))[j]? = some (.own fs) → (σ.set i (some (.ref p)))[j]? = some (some (V.ref a)) → (j = i ∧ a = p) ∨ (j ≠ i ∧ ρ[j]? = some (.own fs) ∧ σ[j]? = some (some (.ref a)) ∧ a ≠ p) := fun j fs e1 e2 => by
      rw [List.getElem?_set] at e1 e2
      by_cases hj : i = j
      · subst hj
        rw [if_pos rfl] at e2
        split at e2
        · cases e2; exact .inl ⟨rfl, rfl⟩
        · cases e2
      · rw [if_neg hj] at e1 e2
        exact .inr ⟨fun z => hj z.symm, e1, e2, fun z => old j fs e1 (by rw [e2, z])⟩
    rcases g _ _ e1 e3 with ⟨h1, h2⟩ | ⟨h1, h2, h3, h4⟩
    · rcases g _ _ e2 e4 with ⟨k1, _⟩ | ⟨_, _, _, k4⟩
      · rw [h1, k1]
      · exact absurd h2 k4
    · rcases g _ _ e2 e4 with ⟨_, k2⟩ | ⟨_, k2, k3, _⟩
      · exact absurd k2 h4
      · exact rel.own1 _ _ a _ _ h2 k2 h3 k3
/-- a list of the frame becomes a value -/
theorem Rel.frz {i : Nat} {ds : List D} (rel : Rel K G fr μ O H σ ρ S) (h : ρ[i]? = some (.own ds)) : ∃ O', Step μ O H μ O' H ∧ Rel K G fr μ O' H σ (ρ.set i (.val (.lst ds))) S := by
  obtain ⟨a, xs, e1, ha, e2, q⟩ := rel.env i _ h
  have hl : i < ρ.length := (List.getElem?_eq_some_iff.mp h).1
  have sub : ∀ b ∈ O.filter (· != a), b ∈ O ∧ b ≠ a := fun b hb => by
    have := List.mem_filter.mp hb
    exact ⟨this.1, by simpa using this.2⟩
  have st : Step μ O H μ (O.filter (· != a)) H := ⟨fun _ _ h _ _ _ => h, fun _ h => h, ⟨[], by simp, by simp⟩, fun b hb => .inl (sub b hb).1⟩
  have w : ∀ b, NN fr.M (O.filter (· != a)) μ b → NN fr.M O μ b := fun b z => by
    rcases z with z | z | z
    · exact .inl z
    · exact .inr (.inl (sub b z).1)
    · exact .inr (.inr z)
  refine ⟨O.filter (· != a), st, rel.step.trans st, rel.mtr, fun b hb => rel.oth b (sub b hb).1, rel.st.weak w, rel.tabs, by rw [List.length_set]; exact rel.len, fun j s e => ?_, fun j k b fs gs f1 f2 f3 f4 => ?_⟩
  · rw [List.getElem?_set] at e
    by_cases hj : i = j
    · subst hj
      rw [if_pos rfl, if_pos hl] at e
      cases e
      refine ⟨.ref a, e1, .lst (.inl e2) (fun z => ?_) (q.weak w)⟩
      rcases z with z | z | z
      · rcases rel.step.ow a ha with y | y
        · cases y
        · exact (rel.mtr a z).ne y
      · exact (sub a z).2 rfl
      · exact (rel.oth a ha).2 z
    · rw [if_neg hj] at e
      have r := rel.env j s e
      cases s with
      | none => trivial
      | val d => obtain ⟨v, g1, g2⟩ := r; exact ⟨v, g1, g2.weak w⟩
      | own es =>
        obtain ⟨b, ys, g1, hb, g2, g3⟩ := r
        exact ⟨b, ys, g1, List.mem_filter.mpr ⟨hb, by simpa using fun z => hj (rel.own1 i j a ds es h e e1 (by rw [g1, z]))⟩, g2, g3.weak w⟩
  · have f : ∀ (j : Nat) (fs : List D), (ρ.set i (.val (.lst ds)))[j]? = some (.own fs) → ρ[j]? = some (.own fs) := fun j fs e => by
      rw [List.getElem?_set] at e
      by_cases hj : i = j
      · rw [if_pos hj] at e
        split at e <;> cases e
      · rw [if_neg hj] at e; exact e
    exact rel.own1 j k b fs gs (f _ _ f1) (f _ _ f2) f3 f4
/-- a list of the frame handed back -/
theorem Rel.retO {i : Nat} {ds : List D} (rel : Rel K G fr μ O H σ ρ S) (h : ρ[i]? = some (.own ds)) : ∃ a, σ[i]? = some (some (.ref a)) ∧ Rp K G (NN fr.M [] μ) μ H (.ref a) (.lst ds) := by
  obtain ⟨a, xs, e1, ha, e2, q⟩ := rel.env i _ h
  refine ⟨a, e1, .lst (.inl e2) (fun z => ?_) (q.weak fun b z => ?_)⟩
  · rcases z with z | z | z
    · rcases rel.step.ow a ha with y | y
      · cases y
      · exact (rel.mtr a z).ne y
    · cases z
    · exact (rel.oth a ha).2 z
  · rcases z with z | z | z
    · exact .inl z
    · cases z
    · exact .inr (.inr z)
theorem nn0 {M : Addr → Prop} : ∀ b, NN M [] μ b → NN M O μ b := fun b z => by
  rcases z with z | z | z
  · exact .inl z
  · cases z
  · exact .inr (.inr z)
end
/-! ### rules -/
section
variable {X : Cx} {G : Gx} {W : WX} {n k : Nat} {pos : Pos} {e a b c : Expr} {es : List Expr} {ie ia ib ic : Ex} {ies : Exs} {p p2 : Pt} {st : Stmt} {sts : List Stmt} {is : Sx} {iss iss2 : Sxs}
theorem ss_nil : PSs X [] (tSs X.K G W n .nil) := pss_nil.imp fun D σ H ⟨fr, μ, O, ρ, S, rel, h⟩ => h σ H μ O (Step.refl _ _ _) rel
theorem ss_cons (h1 : PS X st (tS X.K G W n is)) (h2 : PSs X sts (tSs X.K G W n iss)) : PSs X (st :: sts) (tSs X.K G W n (.cons is iss)) :=
  (pss_cons h1 h2).imp fun D σ H ⟨fr, μ, O, ρ, S, rel, h⟩ => by
    refine ⟨fr, μ, O, ρ, S, rel, ?_⟩
    have h : EndS X.K G W fr μ O H ((evs1 G n is ρ S).bind fun o S1 => match o with | .next ρ1 => evss G n iss ρ1 S1 | .ret d => .ok (.ret d) S1) D := h
    cases e : evs1 G n is ρ S with
    | exc c S1 => rw [e] at h; exact h
    | bad => rw [e] at h; exact h
    | ok o S1 =>
      rw [e] at h
      cases o with
      | ret d => exact h
      | next ρ1 => exact fun σ1 H1 μ1 O1 s1 rel1 => ⟨fr, μ1, O1, ρ1, S1, rel1, EndS.later s1 h⟩
theorem ss_frz {i : Nat} (h : PSs X sts (tSs X.K G W n iss)) : PSs X sts (tSs X.K G W n (.cons (.frz i) iss)) := h.imp fun D σ H ⟨fr, μ, O, ρ, S, rel, h⟩ => by
  have h : EndS X.K G W fr μ O H ((match slotO ρ i with | some xs => Rs.ok (Ou.next (ρ.set i (.val (.lst xs)))) S | none => .bad).bind fun o S1 => match o with | Ou.next ρ1 => evss G n iss ρ1 S1 | Ou.ret d => .ok (.ret d) S1) D := h
  cases e : slotO ρ i with
  | none => rw [e] at h; exact h.elim
  | some xs =>
    rw [e] at h
    obtain ⟨O1, s1, rel1⟩ := rel.frz (slot_own e)
    exact ⟨fr, μ, O1, _, S, rel1, EndS.later s1 h⟩
theorem s_asg {tg : Expr} (he : PE X e (tE X.K G W n ie)) (hg : PG X tg (tG X.K G p)) (hs : swapsWithSole [tg] e pos.line X.env = pure false := by rfl) (hw : swappedStores [tg] e X.env = pure none := by rfl) (h1 : (assignEach [tg] X.env).map (·.2) = [assign tg X.env] := by rfl) :
    PS X (.Assign [tg] e pos) (tS X.K G W n (.asg p ie)) := (ps_asg he hg hs hw h1).imp fun D σ H ⟨fr, μ, O, ρ, S, rel, h⟩ => by
  refine ⟨fr, μ, O, ρ, S, rel, (EndS.bindE' (RR := Rp X.K G) h).mono fun v H1 ⟨d, S1, μ1, s1, rel1, r1, h1⟩ => ?_⟩
  cases hp : p.put d ρ with
  | none => rw [hp] at h1; exact h1.elim
  | some ρ1 =>
    rw [hp] at h1
    exact ⟨fr, μ1, O, ρ, S1, d, ρ1, rel1, r1, hp, fun σ2 rel2 _ => EndS.nx h1 (Step.refl _ _ _) rel2⟩
theorem asg_nm {i : Nat} {te : TE} (ht : ∀ σ H Q, tE X.K G W n ie σ H Q → te σ H Q) : ∀ D σ H, tS X.K G W n (.asg (.nm i) ie) D σ H → tAsg te (gName i) D σ H := fun D σ H ⟨fr, μ, O, ρ, S, rel, h⟩ =>
  ht _ _ _ ⟨fr, μ, O, ρ, S, rel, (EndS.bindE' (RR := Rp X.K G) h).mono fun v H1 ⟨d, S1, μ1, s1, rel1, r1, h1⟩ => EndS.nx h1 (Step.refl _ _ _) (rel1.put r1)⟩
theorem s_asg2 {t1 t2 : Expr} (he : PE X e (tE X.K G W n ie)) (h1 : PG X t1 (tG X.K G p)) (h2 : PG X t2 (tG X.K G p2)) (ha : (assignEach [t1, t2] X.env).map (·.2) = [assign t1 X.env, assign t2 X.env] := by rfl) (hw : swappedStores [t1, t2] e X.env = pure none := by rfl) :
    PS X (.Assign [t1, t2] e pos) (tS X.K G W n (.asg2 p p2 ie)) := (ps_asg2 he h1 h2 ha hw).imp fun D σ H ⟨fr, μ, O, ρ, S, rel, h⟩ => by
  refine ⟨fr, μ, O, ρ, S, rel, (EndS.bindE' (RR := Rp X.K G) h).mono fun v H1 ⟨d, S1, μ1, s1, rel1, r1, h1⟩ => ?_⟩
  cases hp : p.put d ρ with
  | none => rw [hp] at h1; exact h1.elim
  | some ρ1 =>
    rw [hp] at h1
    cases hp2 : p2.put d ρ1 with
    | none => simp only [hp2] at h1; exact h1.elim
    | some ρ2 =>
      simp only [hp2] at h1
      exact ⟨fr, μ1, O, ρ, S1, d, ρ1, rel1, r1, hp, fun σ2 rel2 _ => ⟨fr, μ1, O, ρ1, S1, d, ρ2, rel2, r1, hp2, fun σ3 rel3 _ => EndS.nx h1 (Step.refl _ _ _) rel3⟩⟩
theorem s_par2 {i j : Nat} {x y : Str} {px py pt : Pos} {kt k2 pt2} (hc : X.calm = true) (hN : X.N.Nodup) (hi : X.N[i]? = some x) (hj : X.N[j]? = some y) (hij : i ≠ j)
    (hx : X.env.scope.names.lookup x = some .local) (hy : X.env.scope.names.lookup y = some .local) (ha : PA X [a, b] (tA X.K G W n (.cons ia (.cons ib .nil))))
    (hw : swappedStores [.Tuple [.Name x px, .Name y py] kt pt] (.Tuple [a, b] k2 pt2) X.env = pure (some [x, y]))
    (hs : swapsWithSole [.Tuple [.Name x px, .Name y py] kt pt] (.Tuple [a, b] k2 pt2) pos.line X.env = pure false := by rfl) :
    PS X (.Assign [.Tuple [.Name x px, .Name y py] kt pt] (.Tuple [a, b] k2 pt2) pos) (tS X.K G W n (.par2 i j ia ib)) :=
  (ps_par hc hN hi hj hij hx hy ha hw hs).imp fun D σ H ⟨fr, μ, O, ρ, S, rel, h⟩ => by
    have h : EndS X.K G W fr μ O H ((ev G n ia ρ S).bind fun x S1 => (ev G n ib ρ S1).bind fun y S2 => .ok (.next ((ρ.set i (.val x)).set j (.val y))) S2) D := h
    have e : (ev G n ia ρ S).bind (fun x S1 => (ev G n ib ρ S1).bind fun y S2 => Rs.ok (Ou.next ((ρ.set i (.val x)).set j (.val y))) S2) = (evs G n (.cons ia (.cons ib .nil)) ρ S).bind fun ds S2 => match ds with | [x, y] => .ok (.next ((ρ.set i (.val x)).set j (.val y))) S2 | _ => .bad := by
      rw [evs_two]
      cases ev G n ia ρ S with
      | exc c S1 => rfl
      | bad => rfl
      | ok d S1 =>
        show (ev G n ib ρ S1).bind _ = ((ev G n ib ρ S1).bind _).bind _
        cases ev G n ib ρ S1 <;> rfl
    rw [e] at h
    refine ⟨fr, μ, O, ρ, S, rel, (EndS.bindE' (RR := Rps X.K G) h).mono fun vs H1 ⟨ds, S1, μ1, s1, rel1, r1, h1⟩ => ?_⟩
    split at h1
    · obtain ⟨v, w, rfl, rv, rw'⟩ := arg2 r1
      exact ⟨v, w, rfl, EndS.nx h1 (Step.refl _ _ _) ((rel1.put rv).put rw')⟩
    · exact h1.elim
theorem s_par3 {i j l : Nat} {x y z : Str} {px py pz pt : Pos} {kt k2 pt2} (hc : X.calm = true) (hN : X.N.Nodup) (hi : X.N[i]? = some x) (hj : X.N[j]? = some y) (hl : X.N[l]? = some z) (hij : i ≠ j) (hil : i ≠ l) (hjl : j ≠ l)
    (hx : X.env.scope.names.lookup x = some .local) (hy : X.env.scope.names.lookup y = some .local) (hz : X.env.scope.names.lookup z = some .local) (ha : PA X [a, b, c] (tA X.K G W n (.cons ia (.cons ib (.cons ic .nil)))))
    (hw : swappedStores [.Tuple [.Name x px, .Name y py, .Name z pz] kt pt] (.Tuple [a, b, c] k2 pt2) X.env = pure (some [x, y, z]))
    (hs : swapsWithSole [.Tuple [.Name x px, .Name y py, .Name z pz] kt pt] (.Tuple [a, b, c] k2 pt2) pos.line X.env = pure false := by rfl) :
    PS X (.Assign [.Tuple [.Name x px, .Name y py, .Name z pz] kt pt] (.Tuple [a, b, c] k2 pt2) pos) (tS X.K G W n (.par3 i j l ia ib ic)) :=
  (ps_par3 hc hN hi hj hl hij hil hjl hx hy hz ha hw hs).imp fun D σ H ⟨fr, μ, O, ρ, S, rel, h⟩ => by
    have h : EndS X.K G W fr μ O H ((ev G n ia ρ S).bind fun x S1 => (ev G n ib ρ S1).bind fun y S2 => (ev G n ic ρ S2).bind fun z S3 => .ok (.next (((ρ.set i (.val x)).set j (.val y)).set l (.val z))) S3) D := h
    have e : (ev G n ia ρ S).bind (fun x S1 => (ev G n ib ρ S1).bind fun y S2 => (ev G n ic ρ S2).bind fun z S3 => Rs.ok (Ou.next (((ρ.set i (.val x)).set j (.val y)).set l (.val z))) S3) =
        (evs G n (.cons ia (.cons ib (.cons ic .nil))) ρ S).bind fun ds S2 => match ds with | [x, y, z] => .ok (.next (((ρ.set i (.val x)).set j (.val y)).set l (.val z))) S2 | _ => .bad := by
      rw [evs_three]
      cases ev G n ia ρ S with
      | exc c S1 => rfl
      | bad => rfl
      | ok d S1 =>
        show (ev G n ib ρ S1).bind _ = ((ev G n ib ρ S1).bind _).bind _
        cases ev G n ib ρ S1 with
        | exc c S1 => rfl
        | bad => rfl
        | ok d2 S2 =>
          show (ev G n ic ρ S2).bind _ = ((ev G n ic ρ S2).bind _).bind _
          cases ev G n ic ρ S2 <;> rfl
    rw [e] at h
    refine ⟨fr, μ, O, ρ, S, rel, (EndS.bindE' (RR := Rps X.K G) h).mono fun vs H1 ⟨ds, S1, μ1, s1, rel1, r1, h1⟩ => ?_⟩
    split at h1
    · cases r1 with
      | cons ru r1 =>
        obtain ⟨v, w, rfl, rv, rw'⟩ := arg2 r1
        exact ⟨_, v, w, rfl, EndS.nx h1 (Step.refl _ _ _) (((rel1.put ru).put rv).put rw')⟩
    · exact h1.elim
theorem s_own {i : Nat} {x : Str} {px lp : Pos} (hN : X.N.Nodup) (hi : X.N[i]? = some x) (hx : Loc X.env.scope x) (ha : PA X es (tA X.K G W n ies)) (hs : swapsWith (.List es lp) (some (.Name x px)) pos.line X.env = pure false := by rfl) (hf : X.fn x = true ∨ X.env.scope.names.lookup x = some .local := by first | exact .inl rfl | exact .inr rfl | assumption) :
    PS X (.Assign [.Name x px] (.List es lp) pos) (tS X.K G W n (.own i ies)) := (ps_set hN hi hx (pe_lst ha) hs hf).imp fun D σ H ⟨fr, μ, O, ρ, S, rel, h⟩ => by
  refine ⟨fr, μ, O, ρ, S, rel, (EndS.bindE' (RR := Rps X.K G) h).mono fun vs H1 ⟨ds, S1, μ1, s1, rel1, r1, h1⟩ => ?_⟩
  split at h1
  · rename_i hl
    refine ⟨by rw [r1.length, ← big_eq]; exact hl, fun p hp => EndS.nx h1 ?_ (rel1.putO hp r1)⟩
    exact ((Step.same (O := []) (same_upd hp)).grow hp)
  · exact h1.elim
theorem s_expr (he : PE X e (tE X.K G W n ie)) (hs : swapsWith e none pos.line X.env = pure false := by rfl) : PS X (.Expr e pos) (tS X.K G W n (.expr ie)) := (ps_expr he hs).imp fun D σ H ⟨fr, μ, O, ρ, S, rel, h⟩ =>
  ⟨fr, μ, O, ρ, S, rel, (EndS.bindE' (RR := Rp X.K G) h).mono fun v H1 ⟨d, S1, μ1, s1, rel1, r1, h1⟩ => EndS.nx h1 (Step.refl _ _ _) rel1⟩
theorem s_ret (he : PE X e (tE X.K G W n ie)) : PS X (.Return (some e) pos) (tS X.K G W n (.ret ie)) := (ps_ret he).imp fun D σ H ⟨fr, μ, O, ρ, S, rel, h⟩ =>
  ⟨fr, μ, O, ρ, S, rel, (EndS.bindE' (RR := Rp X.K G) h).mono fun v H1 ⟨d, S1, μ1, s1, rel1, r1, h1⟩ => h1 v H1 μ1 rel1.relS (r1.weak nn0)⟩
theorem s_retOwn {i : Nat} {x : Str} {p1 : Pos} (hN : X.N[i]? = some x) (hv : Vis X.env.scope x) (hd : (x == ("__debug__" : Str)) = false := by decide) (hcd : (x == ("__classdict__" : Str)) = false := by decide) : PS X (.Return (some (.Name x p1)) pos) (tS X.K G W n (.retOwn i)) :=
  (ps_ret (pe_var hN hv hd hcd)).imp fun D σ H ⟨fr, μ, O, ρ, S, rel, h⟩ => by
    have h : EndS X.K G W fr μ O H (match slotO ρ i with | some xs => Rs.ok (.ret (.lst xs)) S | none => .bad) D := h
    cases e : slotO ρ i with
    | none => rw [e] at h; exact h.elim
    | some xs =>
      rw [e] at h
      obtain ⟨a, e1, r⟩ := rel.retO (slot_own e)
      exact ⟨_, e1, h _ H μ rel.relS r⟩
theorem s_ite {sa sb : List Stmt} (hc : PT X c (tT X.K G W n ic)) (ha : PSs X sa (tSs X.K G W n iss)) (hb : PSs X sb (tSs X.K G W n iss2)) : PS X (.If c sa sb pos) (tS X.K G W n (.ite ic iss iss2)) :=
  (ps_if hc ha hb).imp fun D σ H ⟨fr, μ, O, ρ, S, rel, h⟩ =>
    ⟨fr, μ, O, ρ, S, rel, (EndS.bindE' (RR := RId) h).mono fun b H1 ⟨d, S1, μ1, s1, rel1, r1, h1⟩ => by
      cases r1
      cases b with
      | true => exact ⟨fr, μ1, O, ρ, S1, rel1, h1⟩
      | false => exact ⟨fr, μ1, O, ρ, S1, rel1, h1⟩⟩
end
end Iv
/-! Iv9: statements: append, subscripts stored, loops, raise. -/
namespace Iv
open PySem PySem.Spec PyProof.Rows L2
section
variable {K : PySem.W.Frag} {G : Gx} {W : WX} {n k : Nat} {fr : Fr} {μ μ' O O' : List Addr} {H H' : Hp} {σ : St} {ρ : Env} {S S' : Store}
theorem step_wr {L : Addr} {o : HO} (h : L ∈ O) : Step μ O H μ O (upd H L o) := ⟨fun b u e _ hO _ => (upd_ne fun z => hO (by rw [z]; exact h)).trans e, fun b e => by
  by_cases z : b = L
  · rw [z, upd_same]; simp
  · rw [upd_ne z]; exact e, ⟨[], by simp, by simp⟩, fun _ h => .inl h⟩
/-- a slot's list has another content -/
theorem Rel.app {i : Nat} {a : Addr} {xs ys : List V} {ds es : List D} (rel : Rel K G fr μ O H σ ρ S) (h : ρ[i]? = some (.own ds)) (e1 : σ[i]? = some (some (.ref a))) (ha : a ∈ O) (e2 : H a = some (.lst xs)) (q : Rps K G (NN fr.M O μ) μ H ys es) :
    Rel K G fr μ O (upd H a (.lst ys)) σ (ρ.set i (.own es)) S := by
  refine rel.wr ha e2 List.length_set fun j s e => ?_
  rw [List.getElem?_set] at e
  by_cases hj : i = j
  · subst hj
    rw [if_pos rfl, if_pos (List.getElem?_eq_some_iff.mp h).1] at e
    cases e
    exact .inr ⟨es, rfl, ⟨ds, h⟩, e1, q⟩
  · rw [if_neg hj] at e
    exact .inl ⟨e, fun fs z w => hj (rel.own1 i j a ds fs h (by rw [e, z]) e1 w)⟩
theorem noClos_set' {d : D} (h : noClo d = true) : ∀ {xs : List D} {j : Nat}, noClos xs = true → noClos (xs.set j d) = true
  | [], _, _ => rfl
  | x :: xs, 0, hx => by
    simp only [noClos, Bool.and_eq_true] at hx
    simp [List.set, noClos, h, hx.2]
  | x :: xs, j + 1, hx => by
    simp only [noClos, Bool.and_eq_true] at hx
    simp [List.set, noClos, hx.1, noClos_set' h hx.2]
theorem noClos_set {d : D} {xs : List D} {j : Nat} (hx : noClos xs = true) (h : noClo d = true) : noClos (xs.set j d) = true := noClos_set' h hx
/-- a list of the store has another content -/
theorem Rel.stor {m : Nat} {a : Addr} {xs ys : List V} {es : List D} (rel : Rel K G fr μ O H σ ρ S) (h : μ[m]? = some a) (e2 : H a = some (.lst xs)) (q : Rps K G (NN fr.M O μ) μ H ys es) (nc : noClos es = true) :
    Step μ O H μ O (upd H a (.lst ys)) ∧ Rel K G fr μ O (upd H a (.lst ys)) σ ρ (S.set m (.lst es)) := by
  have ha : a ∈ μ := List.mem_of_getElem? h
  have st : Step μ O H μ O (upd H a (.lst ys)) := ⟨fun b u e hm _ _ => (upd_ne fun z => hm (by rw [z]; exact ha)).trans e, fun b e => by
    by_cases z : b = a
    · rw [z, upd_same]; simp
    · rw [upd_ne z]; exact e, ⟨[], by simp, by simp⟩, fun _ h => .inl h⟩
  have im := st.imp (M := fr.M)
  refine ⟨st, rel.step.trans st, rel.mtr, fun b hb => ⟨(rel.oth b hb).1.imp fun _ e => (upd_ne fun z => (rel.oth b hb).2 (by rw [z]; exact ha)).trans e, (rel.oth b hb).2⟩, ⟨by rw [List.length_set]; exact rel.st.len, rel.st.nd, fun j b ob f1 f2 => ?_⟩, tabs_upd rel.tabs e2, rel.len, fun i s e => ?_, rel.own1⟩
  · rw [List.getElem?_set] at f2
    by_cases hj : m = j
    · subst hj
      rw [h] at f1
      cases f1
      rw [if_pos rfl] at f2
      split at f2
      · cases f2
        exact ⟨ys, upd_same, q.imp im fun _ _ e => e, nc⟩
      · cases f2
    · rw [if_neg hj] at f2
      refine (rel.st.ob j b ob f1 f2).imp im (fun _ _ e => e) (upd_ne fun z => hj ?_)
      subst z
      exact (List.getElem?_inj (List.getElem?_eq_some_iff.mp h).1 rel.st.nd).mp (h.trans f1.symm)
  · have r := rel.env i s e
    cases s with
    | none => trivial
    | val d => obtain ⟨v, g1, g2⟩ := r; exact ⟨v, g1, g2.imp im fun _ _ e => e⟩
    | own fs =>
      obtain ⟨b, zs, g1, hb, g2, g3⟩ := r
      exact ⟨b, zs, g1, hb, (upd_ne fun z => (rel.oth b hb).2 (by rw [z]; exact ha)).trans g2, g3.imp im fun _ _ e => e⟩
end
section
variable {X : Cx} {G : Gx} {W : WX} {n k : Nat} {pos : Pos} {e a b c : Expr} {es : List Expr} {ie ia ib ic : Ex} {ies : Exs} {p p2 : Pt} {st : Stmt} {sts : List Stmt} {is : Sx} {iss iss2 : Sxs}
theorem s_app {i : Nat} {x : Str} {px apos cpos : Pos} (hN : X.N[i]? = some x) (hv : Vis X.env.scope x) (he : PE X e (tE X.K G W n ie)) (hd : (x == ("__debug__" : Str)) = false := by decide) (hcd : (x == ("__classdict__" : Str)) = false := by decide)
    (hs1 : starEach [e] X.env = (false, eval e X.env) :: starEach [] X.env := by rfl)
    (hbase : attributeBase (.Name x px) "append" X.env (eval (.Name x px) X.env) = eval (.Name x px) X.env := by rfl)
    (hfew : ((backTo cpos (starEach [e] X.env)).all (fun x => !x.1) && (backToKw cpos (keywordEach [] X.env)).all (fun x => x.1.isSome)
      && decide (([e] : List Expr).length + ([] : List Keyword).length + (if ([] : List Keyword).isEmpty then 0 else 1) < 30)) = true := by rfl)
    (hline : (apos.endLine == cpos.line) = true := by rfl) (hplain : (backTo cpos (starEach [] X.env)).any (·.1) = false := by rfl)
    (hs : swapsWith (.Call (.Attribute (.Name x px) "append" apos) [e] [] cpos) none pos.line X.env = pure false := by rfl) :
    PS X (.Expr (.Call (.Attribute (.Name x px) "append" apos) [e] [] cpos) pos) (tS X.K G W n (.app i ie)) :=
  (ps_expr (pe_bm PySem.F.plainAttrs_list PySem.F.slot_list_append PySem.F.type_list_append mt_append (pe_var hN hv hd hcd) (a_one he hs1) hbase hfew hline hs1 hplain) hs).imp fun D σ H ⟨fr, μ, O, ρ, S, rel, h⟩ => by
    have h : EndS X.K G W fr μ O H (match slotO ρ i with | some xs => (ev G n ie ρ S).bind fun d S1 => if xs.length < big then Rs.ok (Ou.next (ρ.set i (.own (xs ++ [d])))) S1 else .bad | none => .bad) D := h
    cases eo : slotO ρ i with
    | none => rw [eo] at h; exact h.elim
    | some ds =>
      rw [eo] at h
      obtain ⟨a, xs, e1, ha, e2, q⟩ := rel.env i _ (slot_own eo)
      refine ⟨_, e1, .inl ⟨rfl, xs, .inl (.inl e2)⟩, fr, μ, O, ρ, S, rel, ?_⟩
      have eq : evs G n (.cons ie .nil) ρ S = (ev G n ie ρ S).bind fun x S1 => .ok [x] S1 := rfl
      show End X.K G W (Rps X.K G) fr μ O H σ ρ (evs G n (.cons ie .nil) ρ S) _
      rw [eq]
      have h : EndS X.K G W fr μ O H ((ev G n ie ρ S).bind fun d S1 => if ds.length < big then Rs.ok (Ou.next (ρ.set i (.own (ds ++ [d])))) S1 else .bad) D := h
      cases hev : ev G n ie ρ S with
      | exc cc S1 => rw [hev] at h; exact fun dd H1 μ1 xd rs => h σ dd H1 μ1 xd rs
      | bad => rw [hev] at h; exact h
      | ok d S1 =>
        rw [hev] at h
        intro vs H1 μ1 s1 rel1 r1
        obtain ⟨v, rfl, rv⟩ := arg1 r1
        have h : EndS X.K G W fr μ O H (if ds.length < big then Rs.ok (Ou.next (ρ.set i (.own (ds ++ [d])))) S1 else .bad) D := h
        split at h
        · rename_i hl
          obtain ⟨a', ys, f1, ha', f2, q'⟩ := rel1.env i _ (slot_own eo)
          rw [e1] at f1
          cases f1
          refine ⟨a, ys, v, rfl, rfl, f2, by rw [q'.length, ← big_eq]; exact hl, EndS.nx h (s1.more.trans (step_wr ha')) (rel1.app (slot_own eo) e1 ha' f2 (q'.app (.cons rv .nil)))⟩
        · exact h.elim
theorem s_for {tg iter : Expr} {it : Itx} (B : Bx X W k) (hi : PI X tg iter (tI X.K G W n it)) (hg : PG X tg (tG X.K G p)) (hb : PSs X sts (tSs X.K G W n iss)) (hs : ∀ x, foldedSetIterable iter X.env x = pure x := by intro _; rfl) :
    PS X (.For tg iter sts [] pos) (tS X.K G W n (.for_ p it iss)) := (ps_for B.pass B.calm hi hg hb hs).imp fun D σ H ⟨fr, μ, O, ρ, S, rel, h⟩ => by
  have h : EndS X.K G W fr μ O H ((evi G n it ρ S).bind fun xs S1 => forLoop p (evss G n iss) xs ρ S1) D := h
  refine ⟨fr, μ, O, ρ, S, rel, (EndS.bindE' (RR := Wk X.K G) h).mono fun J H1 ⟨xs, S1, μ1, s1, rel1, wk, h1⟩ => ?_⟩
  refine ⟨fun i m σ H => i ≤ xs.length ∧ m = xs.length - i ∧ ∃ μ' O' ρ' S', Step μ1 O H1 μ' O' H ∧ Rel X.K G fr μ' O' H σ ρ' S' ∧ EndS X.K G W fr μ' O' H (forLoop p (evss G n iss) (xs.drop i) ρ' S') D,
    ⟨xs.length, Nat.zero_le _, by simp, μ1, O, ρ, S1, Step.refl _ _ _, rel1, h1⟩, ?_⟩
  rintro i m σ2 H2 ⟨hi, rfl, μ2, O2, ρ2, S2, s2, rel2, h2⟩
  obtain ⟨wi, wo⟩ := wk _ μ2 H2 s2.imp s2.mus rel2.nt
  by_cases hlt : i < xs.length
  · have hx : xs[i]? = some xs[i] := List.getElem?_eq_getElem hlt
    obtain ⟨go, yld⟩ := wi i _ hx
    rw [List.drop_eq_getElem_cons hlt] at h2
    refine .inr ⟨go, _, fun σ' H' nx => ⟨xs.length - (i + 1), by omega, nx⟩, fun x H' y => ?_⟩
    obtain ⟨sm, rx⟩ := yld x H' y
    generalize xs[i] = d at h2 rx
    unfold forLoop at h2
    cases hp : p.put d ρ2 with
    | none => rw [hp] at h2; exact h2.elim
    | some ρ3 =>
      rw [hp] at h2
      have h2 : EndS X.K G W fr μ2 O2 H2 ((evss G n iss ρ3 S2).bind fun o S1 => match o with | Ou.next ρ2 => forLoop p (evss G n iss) (xs.drop (i + 1)) ρ2 S1 | Ou.ret d => .ok (.ret d) S1) D := h2
      have sS : Step μ2 O2 H2 μ2 O2 H' := Step.same sm
      refine ⟨fr, μ2, O2, ρ2, S2, d, ρ3, rel2.same sm, rx, hp, fun σ3 rel3 _ => ⟨fr, μ2, O2, ρ3, S2, rel3, ?_⟩⟩
      cases hb : evss G n iss ρ3 S2 with
      | exc cc S3 => rw [hb] at h2; exact h2
      | bad => rw [hb] at h2; exact h2
      | ok o S3 =>
        rw [hb] at h2
        cases o with
        | ret d => exact h2
        | next ρ4 => exact fun σ4 H4 μ4 O4 s4 rel4 => ⟨hlt, rfl, μ4, O4, ρ4, S3, s2.trans (sS.trans s4), rel4, EndS.later (sS.trans s4) h2⟩
  · have e : i = xs.length := by omega
    subst e
    rw [List.drop_length] at h2
    exact .inl ⟨wo _ (Nat.le_refl _), EndS.nx h2 (Step.refl _ _ _) rel2⟩
theorem s_while (B : Bx X W k) (hc : PT X c (tT X.K G W n ic)) (hb : PSs X sts (tSs X.K G W n iss)) : PS X (.While c sts [] pos) (tS X.K G W n (.while_ ic iss)) := (ps_while B.pass hc hb).imp fun D σ H ⟨fr, μ, O, ρ, S, rel, h⟩ => by
  have h : EndS X.K G W fr μ O H (whileLoop (evt G n ic) (evss G n iss) G.F ρ S) D := h
  refine ⟨fun m σ H => ∃ fr μ O ρ S, Rel X.K G fr μ O H σ ρ S ∧ EndS X.K G W fr μ O H (whileLoop (evt G n ic) (evss G n iss) m ρ S) D, ⟨G.F, fr, μ, O, ρ, S, rel, h⟩, ?_⟩
  rintro m σ2 H2 ⟨fr, μ, O, ρ, S, rel, h⟩
  cases m with
  | zero => exact h.elim
  | succ m =>
    have h : EndS X.K G W fr μ O H2 ((evt G n ic ρ S).bind fun k S1 => if k = true then (evss G n iss ρ S1).bind fun o S2 => match o with | Ou.next ρ2 => whileLoop (evt G n ic) (evss G n iss) m ρ2 S2 | Ou.ret d => .ok (.ret d) S2 else .ok (.next ρ) S1) D := h
    refine ⟨fr, μ, O, ρ, S, rel, (EndS.bindE' (RR := RId) h).mono fun b H1 ⟨d, S1, μ1, s1, rel1, r1, h1⟩ => ?_⟩
    cases r1
    cases b with
    | false => exact EndS.nx h1 (Step.refl _ _ _) rel1
    | true =>
      rw [if_pos rfl] at h1
      refine ⟨_, fun σ' H' w => ⟨m, Nat.lt_succ_self m, w⟩, fr, μ1, O, ρ, S1, rel1, ?_⟩
      cases hb : evss G n iss ρ S1 with
      | exc cc S3 => rw [hb] at h1; exact h1
      | bad => rw [hb] at h1; exact h1
      | ok o S3 =>
        rw [hb] at h1
        cases o with
        | ret d => exact h1
        | next ρ4 => exact fun σ4 H4 μ4 O4 s4 rel4 => ⟨fr, μ4, O4, ρ4, S3, rel4, EndS.later s4 h1⟩
theorem s_raise {cc : Nat} (B : Bx X W k) (he : L2N.PMk X e (fun _ H Q => Q (.ref (G.cls cc)) none H)) : PS X (.Raise (some e) none pos) (tS X.K G W n (.raise cc)) := (L2N.ps_raise B.calm B.tk he).imp fun D σ H ⟨fr, μ, O, ρ, S, rel, h⟩ =>
  h σ none H μ (fun _ => rfl) rel.relS
theorem s_retNew {lp : Pos} (ha : PA X es (tA X.K G W n ies)) : PS X (.Return (some (.List es lp)) pos) (tS X.K G W n (.retNew ies)) := (ps_ret (pe_lst ha)).imp fun D σ H ⟨fr, μ, O, ρ, S, rel, h⟩ => by
  refine ⟨fr, μ, O, ρ, S, rel, (EndS.bindE' (RR := Rps X.K G) h).mono fun vs H1 ⟨ds, S1, μ1, s1, rel1, r1, h1⟩ => ?_⟩
  split at h1
  · rename_i hl
    rw [Bool.and_eq_true, decide_eq_true_eq] at hl
    obtain ⟨hl, nc⟩ := hl
    refine ⟨by rw [r1.length, ← big_eq]; exact hl, fun p hp => ?_⟩
    have hpm : p ∉ μ1 := fun z => by obtain ⟨u, e, _⟩ := rel1.st.there z; rw [hp] at e; cases e
    have sm : Same H1 (upd H1 p (.lst vs)) := same_upd hp
    have st : Step μ1 [] H1 (μ1 ++ [p]) [] (upd H1 p (.lst vs)) := ⟨fun b o e _ _ _ => sm b o e, fun b e => (Step.same (μ := []) (O := []) sm).trk b e, ⟨[p], rfl, fun a ha => by rw [List.mem_singleton.mp ha]; exact hp⟩, by simp⟩
    have rs := rel1.relS
    have im := st.imp (M := fr.M)
    have hl := rs.st.len
    refine h1 (.ref p) _ (μ1 ++ [p]) ⟨rs.step.trans st, rs.mtr, ⟨by simp [hl], ?_, fun j b ob f1 f2 => ?_⟩, rs.tabs.ext sm⟩ (.obj (by rw [← hl]; simp))
    · rw [List.nodup_append]
      refine ⟨rs.st.nd, by simp, fun a ha b hb => ?_⟩
      rw [List.mem_singleton.mp hb]
      exact fun z => hpm (by rw [← z]; exact ha)
    · by_cases hj : j < S1.length
      · rw [List.getElem?_append_left (by rw [hl]; exact hj)] at f1
        rw [List.getElem?_append_left hj] at f2
        exact (rs.st.ob j b ob f1 f2).imp im st.mus (upd_ne fun z => hpm (by rw [← z]; exact List.mem_of_getElem? f1))
      · have e : j = S1.length := by
          have q := (List.getElem?_eq_some_iff.mp f2).1
          rw [List.length_append] at q
          simp at q
          omega
        subst e
        rw [List.getElem?_append_right (Nat.le_refl _)] at f2
        rw [← hl, List.getElem?_append_right (Nat.le_refl _)] at f1
        simp at f1 f2
        subst f1; subst f2
        exact ⟨vs, upd_same, (r1.weak nn0).imp im st.mus, nc⟩
  · exact h1.elim
theorem s_setix {o i v : Expr} {io ii iv : Ex} {spos : Pos} (hv : PE X v (tE X.K G W n iv)) (ho : PE X o (tE X.K G W n io)) (hi : PE X i (tE X.K G W n ii))
    (ha : ∀ v, assign (.Subscript o i spos) X.env v = (do
      let ov ← holding [v] (eval o X.env)
      let iv ← holding [v, ov] (eval i X.env)
      standAt spos
      holding [v, ov, iv] (setItem ov iv v)
      release [v, ov, iv] []) := by intro _; rfl)
    (hs : swapsWithSole [.Subscript o i spos] v pos.line X.env = pure false := by rfl) (hw : swappedStores [.Subscript o i spos] v X.env = pure none := by rfl) (h1 : (assignEach [.Subscript o i spos] X.env).map (·.2) = [assign (.Subscript o i spos) X.env] := by rfl) :
    PS X (.Assign [.Subscript o i spos] v pos) (tS X.K G W n (.setix io ii iv)) := (ps_asg hv (pg_sub ho hi set_list ha) hs hw h1).imp fun E σ H ⟨fr, μ, O, ρ, S, rel, h⟩ => by
  refine ⟨fr, μ, O, ρ, S, rel, (EndS.bindE' (RR := Rp X.K G) h).mono fun x H1 ⟨d, S1, μ1, s1, rel1, r1, h1⟩ => ?_⟩
  refine ⟨fr, μ1, O, ρ, S1, rel1, (EndS.bindE' (RR := Rp X.K G) h1).mono fun y H2 ⟨d2, S2, μ2, s2, rel2, r2, h2⟩ => ?_⟩
  refine ⟨fr, μ2, O, ρ, S2, rel2, (EndS.bindE' (RR := Rp X.K G) h2).mono fun z H3 ⟨d3, S3, μ3, s3, rel3, r3, h3⟩ => ?_⟩
  have hx : ∃ m j, d2 = D.obj m ∧ d3 = D.int j ∧ EndS X.K G W fr μ3 O H3 (match S3[m]? with | some (Ob.lst xs) => if decide (0 ≤ j) && decide (j < xs.length) && noClo d then Rs.ok (Ou.next ρ) (S3.set m (Ob.lst (xs.set j.toNat d))) else .bad | _ => .bad) E := by
    split at h3
    · exact ⟨_, _, rfl, rfl, h3⟩
    · exact h3.elim
  obtain ⟨m, j, rfl, rfl, h4⟩ := hx
  have r2' := r2.step s3
  cases r3
  have hm : ∃ a, y = V.ref a ∧ μ3[m]? = some a := by
    cases r2' with
    | obj e => exact ⟨_, rfl, e⟩
  obtain ⟨a, rfl, hm⟩ := hm
  cases eS : S3[m]? with
  | none => rw [eS] at h4; exact h4.elim
  | some ob =>
    rw [eS] at h4
    cases ob with
    | ins c fs => exact h4.elim
    | lst xs =>
      have h4 : EndS X.K G W fr μ3 O H3 (if (decide (0 ≤ j) && decide (j < xs.length) && noClo d) = true then Rs.ok (Ou.next ρ) (S3.set m (Ob.lst (xs.set j.toNat d))) else .bad) E := h4
      split at h4
      · rename_i hj
        simp only [Bool.and_eq_true, decide_eq_true_eq] at hj
        obtain ⟨⟨h0, hj2⟩, nd⟩ := hj
        have hj := And.intro h0 hj2
        obtain ⟨vs, e1, q, nc⟩ := rel3.st.ob m a _ hm eS
        obtain ⟨s4, rel4⟩ := rel3.stor hm e1 (q.set j.toNat ((r1.step s2).step s3)) (noClos_set nc nd)
        refine ⟨a, vs, j, j.toNat, rfl, rfl, e1, ?_, EndS.nx h4 s4 rel4⟩
        have hl := q.length
        unfold ixN
        rw [if_pos hj.1, if_pos (by rw [hl]; exact hj.2)]
      · exact h4.elim
end
end Iv
/-! Iv10: calls, defs. -/
namespace Iv
open PySem PySem.Spec PyProof.Rows L2
def EndC (K : PySem.W.Frag) (G : Gx) (fr : Fr) (r : Rs D) (Q : VK) (E : XK) : Prop :=
  match r with
  | .ok d S' => ∀ v H' μ', RelS K G fr μ' H' S' → Rp K G (NN fr.M [] μ') μ' H' v d → Q v H'
  | .exc c S' => ∀ dd H' μ', XD G c dd → RelS K G fr μ' H' S' → E (.ref (G.cls c)) dd H'
  | .bad => False
/-- the promise of the def f, so many calls deep at most -/
def spF (K : PySem.W.Frag) (G : Gx) (n f : Nat) : Sp := fun vs H Q E => ∃ μ M S ds, RelS K G ⟨H, μ, M⟩ μ H S ∧ Rps K G (NN M [] μ) μ H vs ds ∧ EndC K G ⟨H, μ, M⟩ (callF G.Φ G.Λ G.nm G.F n (.fn f) ds S) Q E
section
variable {P : Program} {w : World} {K : PySem.W.Frag} {mg : Str → Option Value} {base : Heap} {G : Gx}
theorem Rel.begin {H : Hp} {μ : List Addr} {M : Addr → Prop} {S : Store} {vs : List V} {ds : List D} {N : List Str} {sl : Nat} (rs : RelS K G ⟨H, μ, M⟩ μ H S) (r : Rps K G (NN M [] μ) μ H vs ds) (hs : sl = N.length) (hl : ds.length ≤ N.length) :
    Rel K G ⟨H, μ, M⟩ μ [] H (L2.start N vs) (frameN sl ds) S := by
  have hv := r.length
  refine ⟨rs.step, rs.mtr, by simp, rs.st, rs.tabs, ?_, fun i s e => ?_, fun i j a es fs e1 => ?_⟩
  · unfold L2.start frameN
    simp [hs, hv]
  · unfold frameN at e
    unfold L2.start
    by_cases hi : i < ds.length
    · rw [List.getElem?_append_left (by simpa using hi), List.getElem?_map] at e
      rw [List.getElem?_append_left (by simpa [hv] using hi), List.getElem?_map]
      rw [List.getElem?_eq_getElem hi] at e
      cases e
      obtain ⟨v, e1, q⟩ := r.get (List.getElem?_eq_getElem hi)
      exact ⟨v, by rw [e1]; rfl, q⟩
    · rw [List.getElem?_append_right (by simpa using hi), List.getElem?_replicate] at e
      split at e
      · cases e; trivial
      · cases e
  · unfold frameN at e1
    by_cases hi : i < ds.length
    · rw [List.getElem?_append_left (by simpa using hi), List.getElem?_map, List.getElem?_eq_getElem hi] at e1
      cases e1
    · rw [List.getElem?_append_right (by simpa using hi), List.getElem?_replicate] at e1
      split at e1 <;> cases e1
/-! ### live lambdas -/
def LvO (outer : List PySem.Env) (s : Shared) (H : Hp) (b : Addr) (o : Obj) : Prop := s.heap.get? b = some o ∧ H b = none ∧ b ∉ frs outer
def LiveAt (G : Gx) (outer : List PySem.Env) (s : Shared) (H : Hp) : Prop := ∀ a k, G.clo a = some k → LvO outer s H a k.o ∧ ∀ p ∈ k.cells, LvO outer s H p.1 p.2
structure LiveO (X : Cx) (b : Addr) (o : Obj) : Prop where
  get : X.s_0.heap.get? b = some o
  free : X.H_0 b = none
  nofs : b ∉ X.fs
  noex : b ∉ X.ex
def LiveX (G : Gx) (X : Cx) : Prop := ∀ a k, G.clo a = some k → LiveO X a k.o ∧ ∀ p ∈ k.cells, LiveO X p.1 p.2
theorem LiveO.at {X : Cx} {b : Addr} {o : Obj} {pins : List (Addr × Obj)} {σ : L2.St} {H : Hp} {s : Shared} (l : LiveO X b o) (I : Inv X pins σ H s) : LvO X.stack s H b o := by
  refine ⟨I.base.keep b o l.get l.free l.nofs l.noex, I.base.free b o l.get l.free l.noex, fun hm => ?_⟩
  rcases List.mem_cons.mp (I.stkSub b hm) with z | z
  · have h1 := Heap.lt_size l.get
    have h2 := I.ok.above
    rw [← z] at h2
    exact Nat.lt_irrefl _ (Nat.lt_of_lt_of_le h1 h2)
  · exact l.nofs z
theorem LiveX.at {G : Gx} {X : Cx} {pins : List (Addr × Obj)} {σ : L2.St} {H : Hp} {s : Shared} (l : LiveX G X) (I : Inv X pins σ H s) : LiveAt G X.stack s H := fun a k e => ⟨(l a k e).1.at I, fun p hp => ((l a k e).2 p hp).at I⟩
/-- a def's promise, told of the state too: its arguments may be live lambdas -/
structure FnS (P : Program) (w : World) (K : PySem.W.Frag) (mg : Str → Option Value) (base : Heap) (G0 : Gs) (R : Gx → Prop) (k : Nat) (f : Addr) (fd : FuncData) (ps : List Str) (n id : Nat) : Prop where
  len : ∀ (G : Gx), G.toGs = G0 → ∀ vs H Q E, spF K G n id vs H Q E → vs.length = ps.length
  run : ∀ (G : Gx), G.toGs = G0 → R G → ∀ (A : Around) (outer : List PySem.Env) (s : Shared) (H : Hp) (args : Args) (us : List Value) (vs : List V) (Q : VK) (E : XK), Room k A → Env0 P w K mg base A outer s H → LiveAt G outer s H → BindsTo s fd args (ps.zip us) → Vals vs us → spF K G n id vs H Q E →
    codeAny (model P w) A (.call (.ref f) args) (CR (L2N.CX P w) outer P w H s Q E) s
theorem FnS.mono {G0 : Gs} {R : Gx → Prop} {j k n id : Nat} {f : Addr} {fd : FuncData} {ps : List Str} (F : FnS P w K mg base G0 R j f fd ps n id) (h : j ≤ k) : FnS P w K mg base G0 R k f fd ps n id :=
  ⟨F.len, fun G hG hR A outer s H args us vs Q E hr => F.run G hG hR A outer s H args us vs Q E (hr.mono h)⟩
/-- the frame's cells are no frames -/
def Cb (X : Cx) : Prop := ∀ x c, X.env.cells.lookup x = some c → c ∉ frs X.stack
/-- no live lambdas -/
def Gx.emp (G : Gs) : Gx := { G with clo := fun _ => none, cok := fun _ _ e => nomatch e }
def Emp (G : Gx) : Prop := G = Gx.emp G.toGs
theorem Emp.live {G : Gx} (h : Emp G) {X : Cx} : LiveX G X := fun a k e => by rw [h] at e; cases e
theorem Emp.at {G : Gx} (h : Emp G) {outer : List PySem.Env} {s : Shared} {H : Hp} : LiveAt G outer s H := fun a k e => by rw [h] at e; cases e
/-- .. its record at hand, at one depth -/
theorem fn_ok_at1 {n : Nat} {G0 : Gs} {R : Gx → Prop} {x qual : Str} {st : Stmt} {f : Addr} {N ps : List Str} {k id : Nat} {fi : FnI} {oc : Value} {od an : Option Addr} {kV doc pm cdv ct : Value} {osl : Array (Option Value)}
    (lk : K.lookup f = some ⟨oc, od, .func (PySem.W.fnOf x qual (defArgs st) (defBody st) (defScope st) .none kV doc pm an cdv ct), osl⟩) (hcd : PySem.W.codeIn K cdv qual = true) (S : FnScope N ps (defScope st)) (hΦ : G0.Φ id = some fi) (hp : fi.pars = ps.length) (hs : fi.slots = N.length) (hpn : ps.length ≤ N.length)
    (body : ∀ (G : Gx), G.toGs = G0 → R G → ∀ (n' : Nat), n' + 1 = n → ∀ (A : Around) (outer : List PySem.Env) (s : Shared) (H : Hp) (E : XK), Bx (cxOf (L2N.CX P w) P w K mg base N qual (defScope st) f cdv A outer s H E) (fun cls d _ H => E cls d H) k →
      LiveX G (cxOf (L2N.CX P w) P w K mg base N qual (defScope st) f cdv A outer s H E) → Cb (cxOf (L2N.CX P w) P w K mg base N qual (defScope st) f cdv A outer s H E) →
      PSs (cxOf (L2N.CX P w) P w K mg base N qual (defScope st) f cdv A outer s H E) (defBody st) (tSs K G (fun cls d _ H => E cls d H) n' fi.body)) :
    FnS P w K mg base G0 R (k + 1) f (PySem.W.fnOf x qual (defArgs st) (defBody st) (defScope st) .none kV doc pm an cdv ct) ps n id := by
  have len : ∀ (G : Gx), G.toGs = G0 → ∀ vs H Q E, spF K G n id vs H Q E → vs.length = ps.length := fun G hG vs H Q E ⟨μ, M, S, ds, rs, r, h⟩ => by
    subst hG
    cases n with
    | zero => exact h.elim
    | succ n =>
      unfold callF at h
      rw [hΦ] at h
      by_cases hl : ds.length = fi.pars
      · rw [r.length, hl, hp]
      · simp only [if_neg hl] at h
        exact h.elim
  refine ⟨len, fun G hG hR A outer s H args us vs Q E hr e0 live hb rv hsp => ?_⟩
  have hlen := len G hG _ _ _ _ hsp
  subst hG
  refine LamX.run_ofS lk hcd S hr e0 hb rv hlen fun hr' => ?_
  obtain ⟨μ, M, St, ds, rs, r, h⟩ := hsp
  cases n with
  | zero => exact h.elim
  | succ n =>
    have hl : ds.length = fi.pars := by rw [hp, ← hlen, r.length]
    unfold callF at h
    rw [hΦ] at h
    simp only [if_pos hl] at h
    have B : Bx (cxOf (L2N.CX P w) P w K mg base N qual (defScope st) f cdv A outer s H E) (fun cls d _ H => E cls d H) k := ⟨rfl, S.nd, L2N.takes_of rfl rfl rfl rfl, passes_of rfl, hr'⟩
    have lx : LiveX G (cxOf (L2N.CX P w) P w K mg base N qual (defScope st) f cdv A outer s H E) := fun a k e => by
      obtain ⟨h1, h2⟩ := live a k e
      exact ⟨⟨h1.1, h1.2.1, h1.2.2, fun z => nomatch (show a ∈ ([] : List Addr) from z)⟩, fun p hp => ⟨(h2 p hp).1, (h2 p hp).2.1, (h2 p hp).2.2, fun z => nomatch (show p.1 ∈ ([] : List Addr) from z)⟩⟩
    have cb : Cb (cxOf (L2N.CX P w) P w K mg base N qual (defScope st) f cdv A outer s H E) := fun y c e hm => by
      have e : (cellsFrom (s.heap.objs.size + 1) (defScope st).names []).lookup y = some c := e
      have ge : s.heap.objs.size + 1 ≤ c := by
        rw [← Heap.size_push s.heap { cls := .type "dict", data := .dict #[] }] at e
        rcases cells_mem (PySem.mem_of_lookup e) with hm' | ⟨_, h2, _⟩
        · cases hm'
        · rw [Heap.size_push] at h2; exact h2
      rcases List.mem_cons.mp (show c ∈ frs (envOfC qual (defScope st) s.heap.objs.size f cdv :: outer) from hm) with z | z
      · have z' : c = s.heap.objs.size := z
        rw [z'] at ge
        exact Nat.not_succ_le_self _ ge
      · obtain ⟨_, o, ho, _⟩ := e0.funs.mem z
        exact Nat.lt_irrefl _ (Nat.lt_of_lt_of_le (Nat.lt_succ_of_lt (Heap.lt_size ho)) ge)
    refine ⟨_, body G rfl hR n rfl A outer s H E B lx cb, ⟨H, μ, M⟩, μ, [], frame fi ds, St, Rel.begin rs r hs (by rw [hl, hp]; exact hpn), ?_⟩
    cases e : evss G n fi.body (frame fi ds) St with
    | bad => simp only [evss] at e; rw [e] at h; exact h.elim
    | exc c S1 =>
      simp only [evss] at e
      rw [e] at h
      exact fun σ' dd H' μ' xd rs' => h dd H' μ' xd rs'
    | ok o S1 =>
      simp only [evss] at e
      rw [e] at h
      cases o with
      | next ρ' => exact fun σ' H' μ' O' s' rel' => h .non H' μ' rel'.relS .non
      | ret d => exact h
/-- .. its record at hand -/
theorem fn_ok_at {G0 : Gs} {R : Gx → Prop} {x qual : Str} {st : Stmt} {f : Addr} {N ps : List Str} {k id : Nat} {fi : FnI} {oc : Value} {od an : Option Addr} {kV doc pm cdv ct : Value} {osl : Array (Option Value)}
    (lk : K.lookup f = some ⟨oc, od, .func (PySem.W.fnOf x qual (defArgs st) (defBody st) (defScope st) .none kV doc pm an cdv ct), osl⟩) (hcd : PySem.W.codeIn K cdv qual = true) (S : FnScope N ps (defScope st)) (hΦ : G0.Φ id = some fi) (hp : fi.pars = ps.length) (hs : fi.slots = N.length) (hpn : ps.length ≤ N.length)
    (body : ∀ (G : Gx), G.toGs = G0 → R G → ∀ (n : Nat) (A : Around) (outer : List PySem.Env) (s : Shared) (H : Hp) (E : XK), Bx (cxOf (L2N.CX P w) P w K mg base N qual (defScope st) f cdv A outer s H E) (fun cls d _ H => E cls d H) k →
      LiveX G (cxOf (L2N.CX P w) P w K mg base N qual (defScope st) f cdv A outer s H E) → Cb (cxOf (L2N.CX P w) P w K mg base N qual (defScope st) f cdv A outer s H E) →
      PSs (cxOf (L2N.CX P w) P w K mg base N qual (defScope st) f cdv A outer s H E) (defBody st) (tSs K G (fun cls d _ H => E cls d H) n fi.body)) :
    ∀ n, FnS P w K mg base G0 R (k + 1) f (PySem.W.fnOf x qual (defArgs st) (defBody st) (defScope st) .none kV doc pm an cdv ct) ps n id :=
  fun n => fn_ok_at1 lk hcd S hΦ hp hs hpn fun G hG hR n' _ => body G hG hR n'
/-- a def at one depth; what its code object is is told -/
theorem fn_okn {n : Nat} {G0 : Gs} {R : Gx → Prop} {x qual : Str} {st : Stmt} {f : Addr} {fd : FuncData} {N ps : List Str} {k j id : Nat} {fi : FnI} (F : Fun K x qual st f fd) (S : FnScope N ps (defScope st)) (hΦ : G0.Φ id = some fi) (hp : fi.pars = ps.length) (hs : fi.slots = N.length) (hpn : ps.length ≤ N.length) (hk : k + 1 = j)
    (body : ∀ (G : Gx), G.toGs = G0 → R G → ∀ (n' : Nat), n' + 1 = n → ∀ (cdv : Value) (A : Around) (outer : List PySem.Env) (s : Shared) (H : Hp) (E : XK), cdv = fd.code → Bx (cxOf (L2N.CX P w) P w K mg base N qual (defScope st) f cdv A outer s H E) (fun cls d _ H => E cls d H) k →
      LiveX G (cxOf (L2N.CX P w) P w K mg base N qual (defScope st) f cdv A outer s H E) → Cb (cxOf (L2N.CX P w) P w K mg base N qual (defScope st) f cdv A outer s H E) →
      PSs (cxOf (L2N.CX P w) P w K mg base N qual (defScope st) f cdv A outer s H E) (defBody st) (tSs K G (fun cls d _ H => E cls d H) n' fi.body)) :
    FnS P w K mg base G0 R j f fd ps n id := by
  obtain ⟨oc, od, kV, doc, pm, an, cdv, ct, osl, rfl, lk, hcd⟩ := F.ex
  subst hk
  exact fn_ok_at1 lk hcd S hΦ hp hs hpn fun G hG hR n' hn A outer s H E => body G hG hR n' hn cdv A outer s H E rfl
/-- THE RULE for a def: its body as a term of rules -/
theorem fn_ok {G0 : Gs} {R : Gx → Prop} {x qual : Str} {st : Stmt} {f : Addr} {fd : FuncData} {N ps : List Str} {k id : Nat} {fi : FnI} (F : Fun K x qual st f fd) (S : FnScope N ps (defScope st)) (hΦ : G0.Φ id = some fi) (hp : fi.pars = ps.length) (hs : fi.slots = N.length) (hpn : ps.length ≤ N.length)
    (body : ∀ (G : Gx), G.toGs = G0 → R G → ∀ (n : Nat) (cdv : Value) (A : Around) (outer : List PySem.Env) (s : Shared) (H : Hp) (E : XK), Bx (cxOf (L2N.CX P w) P w K mg base N qual (defScope st) f cdv A outer s H E) (fun cls d _ H => E cls d H) k →
      LiveX G (cxOf (L2N.CX P w) P w K mg base N qual (defScope st) f cdv A outer s H E) → Cb (cxOf (L2N.CX P w) P w K mg base N qual (defScope st) f cdv A outer s H E) →
      PSs (cxOf (L2N.CX P w) P w K mg base N qual (defScope st) f cdv A outer s H E) (defBody st) (tSs K G (fun cls d _ H => E cls d H) n fi.body)) :
    ∀ n, FnS P w K mg base G0 R (k + 1) f fd ps n id := by
  obtain ⟨oc, od, kV, doc, pm, an, cdv, ct, osl, rfl, lk, hcd⟩ := F.ex
  exact fn_ok_at lk hcd S hΦ hp hs hpn fun G hG hR n A outer s H E => body G hG hR n cdv A outer s H E
end
section
variable {X : Cx} {G : Gx} {W : WX} {n k j id : Nat} {pos p : Pos} {e : Expr} {es : List Expr} {ies : Exs} {f : Addr} {fd : FuncData} {ps : List Str} {x : Str}
theorem nn_call {M : Addr → Prop} {O μ : List Addr} (b : Addr) : NN (fun a => M a ∨ a ∈ O) [] μ b ↔ NN M O μ b := by
  unfold NN
  constructor
  · rintro ((h | h) | h | h)
    · exact .inl h
    · exact .inr (.inl h)
    · cases h
    · exact .inr (.inr h)
  · rintro (h | h | h)
    · exact .inl (.inl h)
    · exact .inl (.inr h)
    · exact .inr (.inr h)
/-- what a call's promise asks, at a caller's point -/
theorem call_end {fr : Fr} {μ O : List Addr} {H : Hp} {σ : St} {ρ : Env} {S : Store} {vs : List V} {ds : List D} {Q : VK} (rel : Rel X.K G fr μ O H σ ρ S) (r : Rps X.K G (NN fr.M O μ) μ H vs ds) (h : End X.K G W (Rp X.K G) fr μ O H σ ρ (callF G.Φ G.Λ G.nm G.F n (.fn id) ds S) Q) :
    spF X.K G n id vs H Q (L2.WE W σ) := by
  refine ⟨μ, fun a => fr.M a ∨ a ∈ O, S, ds, ⟨Step.refl _ _ _, fun a z => rel.nl a (z.elim .inl fun z => .inr (.inl z)), rel.st.weak fun b z => (nn_call b).mp z, rel.tabs⟩, r.weak fun b z => (nn_call b).mp z, ?_⟩
  cases e : callF G.Φ G.Λ G.nm G.F n (.fn id) ds S with
  | bad => rw [e] at h; exact h
  | exc c S1 =>
    rw [e] at h
    exact fun dd H' μ' xd rs => h dd H' μ' xd (rel.next rs.step (rs.st.weak fun b z => (nn_call b).mpr z) rs.tabs).relS
  | ok d S1 =>
    rw [e] at h
    exact fun v H' μ' rs rv => h v H' μ' rs.step (rel.next rs.step (rs.st.weak fun b z => (nn_call b).mpr z) rs.tabs) (rv.weak fun b z => (nn_call b).mpr z)
theorem run_fnS' {R : Gx → Prop} {pins : List (Addr × Obj)} {σ : L2.St} {H : Hp} {s : Shared} {Q : VK} {us : List Value} {vs : List V} {E : L2.St → XK} (F : FnS X.prog X.w X.K X.mg X.base G.toGs R k f fd ps n id) (hR : R G) (hr : Room k X.A) (hb : Binds X.K fd ps []) (hx : PassesAt (L2N.CX X.prog X.w) X σ (E σ))
    (I : Inv X pins σ H s) (live : LiveAt G X.stack s H) (r : Vals vs us) (h : spF X.K G n id vs H Q (E σ)) : wpAny (model X.prog X.w) X.A (call (.ref f) us) (EP X pins σ Q) X.xe s := by
  have hl : us.length = ps.length := by rw [← r.length]; exact F.len G rfl _ _ _ _ h
  have b := hb s us I.kIn (by rw [List.append_nil]; exact hl)
  rw [List.append_nil] at b
  refine wpAny_call (codeAny_mono (F.run G rfl hR X.A X.stack s H ⟨us, []⟩ us vs Q (E σ) hr I.env0 live b r h) fun r s' hq => ?_)
  cases r with
  | error e => exact hx pins H s e s' I hq
  | ok fl =>
    cases fl with
    | ret u => exact I.after hq
    | next => exact False.elim hq
    | brk => exact False.elim hq
    | cont => exact False.elim hq
theorem e_call {R : Gx → Prop} (B : Bx X W k) (live : LiveX G X) (F : FnS X.prog X.w X.K X.mg X.base G.toGs R j f fd ps n id) (hR : R G) (hj : j ≤ k) (hg : Gl X x) (hm : X.mg x = some (.ref f)) (hk : PySem.W.keepIn X.K (.ref f) = true) (hb : Binds X.K fd ps [])
    (ha : PA X (e :: es) (tA X.K G W n ies)) (hdb : (x == ("__debug__" : Str)) = false := by decide) (he : starEach (e :: es) X.env = (false, eval e X.env) :: starEach es X.env := by rfl) (hpl : (backTo pos (starEach es X.env)).any (·.1) = false := by rfl) :
    PE X (.Call (.Name x p) (e :: es) [] pos) (tE X.K G W n (.call id ies)) := by
  refine ⟨fun pins s σ H Q I ⟨fr, μ, O, ρ, S, rel, h⟩ => ?_⟩
  refine wpAny_Call_Name_kw (ld_glob I hg hm ?_ hdb)
  refine PySem.W.callWith_K (h₀ := X.base) I.ok.mod.kin hk (thn (ha.run pos pins s σ H _ I ⟨fr, μ, O, ρ, S, rel, (End.bind (RR := Rps X.K G) h)⟩) fun us s1 ⟨vs, H1, I1, r, ds, S1, μ1, s1, rel1, r1, h1⟩ => ⟨I1.kIn, ?_⟩) he hpl
  exact run_fnS' (E := L2.WE W) (F.mono hj) hR B.room hb (L2N.passAt B.tk σ) I1 (live.at I1) r (call_end rel1 r1 h1)
end
end Iv
set_option maxHeartbeats 2000000
/-! Iv11: within an except suite: a zip of lists walked to its end, a list comprehension. -/
namespace Iv
open PySem PySem.Spec PyProof.Rows L2 L2H HotX
section
variable {prog : Program} {w : World} {A : Around} {E : Value → Shared → Prop} {s : Shared}
theorem nextOf_list_end_hot {it l x1 : Addr} {i : Nat} {items} {Q : Value → Shared → Prop} (hot : HotAt A x1 s.heap) (hni : x1 ≠ it) (hit : s.heap.IsListIter it l i) (hl : s.heap.IsList l items) (hx : items[i]? = none)
    (hE : ∀ h' e, Heap.ExtBut it s.heap h' → (∃ o, h'.get? e = some o ∧ o.cls = .type "StopIteration") → E (.ref e) { s with heap := h' }) :
    wpAny (model prog w) A (Builtin.SmallTypes.nextOf (.ref it)) Q E s := by
  obtain ⟨o, ho, hc, hd⟩ := id hit
  obtain ⟨ol, hol, _, nl, hdl⟩ := hl
  obtain ⟨hh, o1, vs1, h1, d1, c1⟩ := hot
  unfold Builtin.SmallTypes.nextOf
  refine wpAny_bind (wpAny_callSpecial?_slot (name := Str.ofString "__next__") hit.typeIs slot_listiter_next
    (wpAny_call_entry slot_listiter_next hit.typeIs entry_listiter_next ?_ (args_listiter_next _)))
  show wpAny _ _ (field (.ref it) 0 >>= _) _ _ s
  refine wpAny_bind (wpAny_field ho hd (x := .ref l) rfl ?_)
  show wpAny _ _ (if (Value.ref l == Value.none) = true then _ else _) _ _ s
  rw [if_neg (show ¬ ((Value.ref l == Value.none) = true) from Bool.false_ne_true)]
  show wpAny _ _ (field (.ref it) 1 >>= _) _ _ s
  refine wpAny_bind (wpAny_field ho hd (x := .int i 0) rfl ?_)
  show wpAny _ _ (seqItems? (.ref l) >>= _) _ _ s
  refine wpAny_bind (wpAny_seqItems hol hdl ?_)
  simp only [Int.toNat_natCast, hx]
  refine wpAny_bind (wpAny_rule (wpAny_bind (wpAny_setField ho hd (by simp) ?_)))
  show wpAny _ _ (newExc (.type "StopIteration") [] >>= _) _ _ _
  refine wpAny_bind ?_
  simp only [newExc, newTuple]
  refine wpAny_bind (wpAny_newObj_type ?_ (by size_fits))
  refine wpAny_bind (m := firstArgMember _ _) (wpAny_of_eq (a := Value.none) (by first | rfl | (simp only [firstArgMember]; rfl)) ?_)
  refine wpAny_newObj_type ?_ (by size_fits)
  have g1 : ∀ {h' : Heap}, Heap.ExtBut it s.heap h' → h'.get? x1 = some o1 := fun e => e _ _ hni h1
  refine raiseNew_hot ⟨hh, o1, vs1, g1 (((Heap.SameBut.update ..).extBut.push _).push _), d1, c1⟩ (Nat.ne_of_lt (Heap.lt_size (g1 ((Heap.SameBut.update ..).extBut.push _)))) (Heap.get?_push_size _ rfl) rfl (by first | (simp; done) | (simp; omega) | (simp only [Array.size_append]; simp; omega)) ?_
  refine hE _ _ (fun b u hb e => ?_) ⟨_, Heap.get?_update_self _ (Heap.get?_push_size _ rfl) rfl, rfl⟩
  refine (Heap.get?_update_other _ _ ?_).trans ((((Heap.SameBut.update ..).extBut.push _).push _) b u hb e)
  exact Nat.ne_of_gt (Heap.lt_size (((Heap.SameBut.update ..).extBut.push _) b u hb e))
theorem zip_next_end_hot {z TI TO i1 i2 l1 l2 x1 : Addr} {k1 k2 : Nat} {xs ys : Array Value} {a b : Value} {Q : Fin → Shared → Prop} (hot : HotAt A x1 s.heap) (n1 : x1 ≠ z) (n2 : x1 ≠ TO) (n3 : x1 ≠ i1) (n4 : x1 ≠ i2) (D : ZipApart z TI TO i1 i2 l1 l2)
    (hz : IsZip s.heap z TI TO .none) (hTI : IsPair s.heap TI (.ref i1) (.ref i2)) (hTO : IsPair s.heap TO a b)
    (h1 : s.heap.IsListIter i1 l1 k1) (h2 : s.heap.IsListIter i2 l2 k2) (hl1 : s.heap.IsList l1 xs) (hl2 : s.heap.IsList l2 ys) (hend : xs[k1]? = none ∨ ys[k2]? = none)
    (hE : ∀ h' e, (∀ c o, c ≠ z → c ≠ TO → c ≠ i1 → c ≠ i2 → s.heap.get? c = some o → h'.get? c = some o) → (∃ o, h'.get? e = some o ∧ o.cls = .type "StopIteration") → E (.ref e) { s with heap := h' }) :
    wpAny (model prog w) A (Builtin.«zip.__next__» ⟨[.ref z], []⟩) Q E s := by
  have hotK : ∀ {h' : Heap}, (∀ o, s.heap.get? x1 = some o → h'.get? x1 = some o) → HotAt A x1 h' := fun {h'} k => by
    obtain ⟨hh, o1, vs1, g1, g2, g3⟩ := hot
    exact ⟨hh, o1, vs1, k _ g1, g2, g3⟩
  show wpAny _ _ (field (.ref z) 2 >>= _) _ _ _
  refine wpAny_bind (wpAny_field hz rfl (x := .bool false) rfl ?_)
  show wpAny _ _ (field (.ref z) 3 >>= _) _ _ _
  refine wpAny_bind (wpAny_field hz rfl (x := .ref TI) rfl ?_)
  refine wpAny_bind (wpAny_seqItems hTI rfl ?_)
  show wpAny _ _ (Builtin.SmallTypes.ownedTupleIsFree (.ref z) >>= _) _ _ _
  refine wpAny_bind ?_
  unfold Builtin.SmallTypes.ownedTupleIsFree
  refine wpAny_bind (wpAny_field hz rfl (x := .none) rfl (wpAny_pure ?_))
  simp only [if_true]
  refine wpAny_bind (wpAny_rule ?_)
  refine wpAny_bind (wpAny_field hz rfl (x := .ref TO) rfl ?_)
  refine wpAny_bind (wpAny_setField_rec hz (by simp) fun h₁ hz₁ hs₁ => ?_)
  replace hz₁ : IsZip h₁ z TI TO .ellipsis := hz₁
  refine wpAny_bind ?_
  simp only [List.zipIdx_cons, List.zipIdx_nil, List.forIn_cons, List.forIn_nil]
  refine wpAny_bind (wpAny_bind (wpAny_onRaise ?_))
  show wpAny _ _ (Builtin.SmallTypes.nextOf (.ref i1) >>= _) _ _ _
  cases hx : xs[k1]? with
  | none =>
    refine wpAny_bind (nextOf_list_end_hot (hotK fun o e => hs₁.extBut _ _ n1 e) n3 (h1.extBut hs₁.extBut D.i1z) (hl1.extBut hs₁.extBut D.l1z) hx fun h₂ e hs₂ he => ?_)
    obtain ⟨oe, hoe, hce⟩ := he
    have hz₂ : IsZip h₂ z TI TO .ellipsis := hs₂ _ _ D.i1z.symm hz₁
    have hez : e ≠ z := fun x => by subst x; rw [hz₂] at hoe; cases hoe; simp at hce
    refine wpAny_setField_rec hz₂ (by simp) fun h₃ _ hs₃ => hE h₃ e (fun c o c1 _ c3 _ x => hs₃.extBut _ _ c1 (hs₂ _ _ c3 (hs₁.extBut _ _ c1 x))) ⟨oe, hs₃.extBut _ _ hez hoe, hce⟩
  | some x =>
    have hy : ys[k2]? = none := by rcases hend with h | h; rw [hx] at h; cases h; exact h
    refine wpAny_bind (wpAny_nextOf_list_item (h1.extBut hs₁.extBut D.i1z) (hl1.extBut hs₁.extBut D.l1z) hx fun h₂ h1₂ hs₂ => wpAny_pure ?_)
    have hTO₂ : IsPair h₂ TO a b := hs₂.extBut _ _ D.TOi1 (hs₁.extBut _ _ D.TOz hTO)
    refine wpAny_bind (wpAny_seqItems hTO₂ rfl ?_)
    refine wpAny_bind (wpAny_updateSeq_pair hTO₂ fun h₃ hTO₃ hs₃ => ?_)
    refine wpAny_bind (wpAny_letGo (wpAny_pure ?_))
    refine wpAny_bind (wpAny_bind (wpAny_onRaise ?_))
    show wpAny _ _ (Builtin.SmallTypes.nextOf (.ref i2) >>= _) _ _ _
    refine wpAny_bind (nextOf_list_end_hot (hotK fun o e => hs₃.extBut _ _ n2 (hs₂.extBut _ _ n3 (hs₁.extBut _ _ n1 e))) n4 (((h2.extBut hs₁.extBut D.i2z).extBut hs₂.extBut D.i12.symm).extBut hs₃.extBut D.TOi2.symm)
      (((hl2.extBut hs₁.extBut D.l2z).extBut hs₂.extBut D.l2i1).extBut hs₃.extBut D.l2TO) hy fun h₄ e hs₄ he => ?_)
    obtain ⟨oe, hoe, hce⟩ := he
    have hz₄ : IsZip h₄ z TI TO .ellipsis := hs₄ _ _ D.i2z.symm (hs₃.extBut _ _ D.TOz.symm (hs₂.extBut _ _ D.i1z.symm hz₁))
    have hez : e ≠ z := fun x => by subst x; rw [hz₄] at hoe; cases hoe; simp at hce
    refine wpAny_setField_rec hz₄ (by simp) fun h₅ _ hs₅ => hE h₅ e (fun c o c1 c2 c3 c4 x => hs₅.extBut _ _ c1 (hs₄ _ _ c4 (hs₃.extBut _ _ c2 (hs₂.extBut _ _ c3 (hs₁.extBut _ _ c1 x))))) ⟨oe, hs₅.extBut _ _ hez hoe, hce⟩
theorem pyNext_zip_end_hot {z TI TO i1 i2 l1 l2 x1 : Addr} {k1 k2 : Nat} {xs ys : Array Value} {a b : Value} {Q : Option Value → Shared → Prop} (hot : HotAt A x1 s.heap) (n1 : x1 ≠ z) (n2 : x1 ≠ TO) (n3 : x1 ≠ i1) (n4 : x1 ≠ i2) (D : ZipApart z TI TO i1 i2 l1 l2)
    (hz : IsZip s.heap z TI TO .none) (hTI : IsPair s.heap TI (.ref i1) (.ref i2)) (hTO : IsPair s.heap TO a b)
    (h1 : s.heap.IsListIter i1 l1 k1) (h2 : s.heap.IsListIter i2 l2 k2) (hl1 : s.heap.IsList l1 xs) (hl2 : s.heap.IsList l2 ys) (hend : xs[k1]? = none ∨ ys[k2]? = none)
    (hQ : ∀ h', (∀ c o, c ≠ z → c ≠ TO → c ≠ i1 → c ≠ i2 → s.heap.get? c = some o → h'.get? c = some o) → Q none { s with heap := h' }) : wpAny (model prog w) A (pyNext (.ref z)) Q E s := by
  have hT : s.TypeIs (.ref z) "zip" := ⟨_, hz, rfl⟩
  unfold pyNext
  refine wpAny_bind (wpAny_attempt (wpAny_callSpecial?_slot (name := Str.ofString "__next__") hT F.slot_zip_next
    (wpAny_call_entry F.slot_zip_next hT F.entry_zip_next (zip_next_end_hot ?_ n1 n2 n3 n4 D hz hTI hTO h1 h2 hl1 hl2 hend fun h' e hk he => ?_) (F.args_zip_next_1 _))))
  · exact hot
  · obtain ⟨o, ho, hc⟩ := he
    refine wpAny_bind (wpAny_isInstance (T := "StopIteration") (b := true) ⟨o, ho, hc⟩ isSubtype_stop ?_)
    exact wpAny_pure (hQ _ hk)
end
/-- what a turn of a zip of two lists is, within a suite -/
theorem turn_zipH {P : Program} {w : World} {K : PySem.W.Frag} {elts : List Expr} {kk : Nat} {tpos : Pos} {a b z TI TO i1 i2 : Addr} (D : ZipApart z TI TO i1 i2 a b) :
    TurnH P w K (.Tuple elts kk tpos) (Itz K a b) [z, TI, TO, i1, i2] z (fun i h => IsZip h z TI TO .none ∧ IsPair h TI (.ref i1) (.ref i2) ∧ (∃ x y, IsPair h TO x y) ∧ h.IsListIter i1 a i ∧ h.IsListIter i2 b i) where
  mem := by simp
  obj := (turn_zip (P := P) (w := w) (K := K) (elts := elts) (kk := kk) (tpos := tpos) D).obj
  keep := (turn_zip (P := P) (w := w) (K := K) (elts := elts) (kk := kk) (tpos := tpos) D).keep
  item := by
    intro X hP hw hK hc i pins s σ H E I hf st hg
    subst hP hw hK
    obtain ⟨hz, hTI, ⟨x0, y0, hTO⟩, h1, h2⟩ := st
    obtain ⟨xs, ys, x, y, hqx, hqy, hx, hy⟩ := hg
    obtain ⟨its, rv, p, _⟩ := I.list hqx
    obtain ⟨its2, rv2, p2, _⟩ := I.list hqy
    obtain ⟨u, hu, ru⟩ := rv.get hx
    obtain ⟨u2, hu2, ru2⟩ := rv2.get hy
    have hzl : z < s.heap.objs.size := Heap.lt_size hz
    refine wpAny_pyNext_zip_item D hz hTI hTO h1 h2 p.isList p2.isList (x := u) (y := u2) (by simpa using hu) (by simpa using hu2) fun h' z' TO' h1' h2' hT hsz hk => ?_
    refine ⟨_, rfl, wpAny_letOwnedTupleGo_zip (s := { s with heap := h' }) z' fun h'' z'' sb => ?_⟩
    have hT2 : h''.get? s.heap.objs.size = some { cls := .type "tuple", data := .seq #[u, u2] } := (sb.2 _ (Nat.ne_of_gt hzl)).trans hT
    have new : ObjOk X.prog X.w (upd H s.heap.objs.size (.tup [x, y])) h'' s.heap.objs.size (.tup [x, y]) :=
      ⟨by show 2 ≤ sizeLine; decide, [u, u2], .cons ru (.cons ru2 .nil), ⟨_, hT2, rfl, _, rfl⟩⟩
    have I1 : Inv X pins σ (upd H s.heap.objs.size (.tup [x, y])) { s with heap := h'' } :=
      I.turnedNew (t' := s.toks) (ch := [z, TI, TO, i1, i2]) (fun c o hb q => (sb.2 c (fun q' => hb (by simp [q']))).trans (hk c o (fun q' => hb (by simp [q'])) (fun q' => hb (by simp [q'])) (fun q' => hb (by simp [q'])) (fun q' => hb (by simp [q'])) q)) hf (Nat.le_refl _) new
    refine ⟨.ref s.heap.objs.size, _, I1, rfl, ⟨_, x, y, rfl, I.hok.fresh (Nat.le_refl _), rfl, fun l hl => by rw [I.list_inj hl hqx]; exact hx, fun l hl => by rw [I.list_inj hl hqy]; exact hy⟩, ⟨z'', ?_, ⟨u, u2, ?_⟩, ?_, ?_⟩, fun c hcm => ?_⟩
    · exact (sb.2 _ D.TIz).trans (hk _ _ D.TIz D.TITO D.TIi1 D.TIi2 hTI)
    · exact (sb.2 _ D.TOz).trans TO'
    · exact h1'.at fun o q => (sb.2 _ D.i1z).trans q
    · exact h2'.at fun o q => (sb.2 _ D.i2z).trans q
    · have hlt : c < s.heap.objs.size := by
        have e' : c = z ∨ c = TI ∨ c = TO ∨ c = i1 ∨ c = i2 := by simpa using hcm
        rcases e' with q | q | q | q | q
        · rw [q]; exact hzl
        · rw [q]; exact Heap.lt_size hTI
        · rw [q]; exact Heap.lt_size hTO
        · rw [q]; obtain ⟨_, e1, _⟩ := h1; exact Heap.lt_size e1
        · rw [q]; obtain ⟨_, e2, _⟩ := h2; exact Heap.lt_size e2
      rw [upd_ne (Nat.ne_of_lt hlt)]
      exact (hf c hcm).1
  done := by
    intro X hP hw hK hc i pins s σ H E I hf st hg
    subst hP hw hK
    obtain ⟨hz, hTI, ⟨x0, y0, hTO⟩, h1, h2⟩ := st
    obtain ⟨xs, ys, hqx, hqy, hend⟩ := hg
    obtain ⟨its, rv, p, _⟩ := I.list hqx
    obtain ⟨its2, rv2, p2, _⟩ := I.list hqy
    have l1 := rv.length
    have l2 := rv2.length
    have he : its.toArray[i]? = none ∨ its2.toArray[i]? = none := by
      rcases hend with q | q
      · exact .inl (by simp; omega)
      · exact .inr (by simp; omega)
    obtain ⟨pp, ⟨hh, v1, e1, c1⟩, hp⟩ := hc
    have hot : HotAt X.A pp.1 s.heap := ⟨hh, pp.2, v1, (I.pin pp (List.mem_append_left _ hp)).1, e1, c1⟩
    have nn : ∀ c ∈ [z, TI, TO, i1, i2], pp.1 ≠ c := fun c hcm => (hf c hcm).2.2.2.2.2 pp (List.mem_append_left _ hp)
    exact pyNext_zip_end_hot hot (nn z (by simp)) (nn TO (by simp)) (nn i1 (by simp)) (nn i2 (by simp)) D hz hTI hTO h1 h2 p.isList p2.isList he fun h' hk => ⟨rfl, I.turnedL (t' := s.toks) (ch := [z, TI, TO, i1, i2]) (fun c o hb q =>
      hk c o (fun q' => hb (by simp [q'])) (fun q' => hb (by simp [q'])) (fun q' => hb (by simp [q'])) (fun q' => hb (by simp [q'])) q) hf⟩
  self := fun A i s Q E st h => wpAny_pyIter_zip st.1 h
def iZipH (K : PySem.W.Frag) (ta : TA) : TI := fun σ H R => ta σ H fun vs H1 => ∃ a b xs ys, vs = [.ref a, .ref b] ∧ SqL K H1 a xs ∧ SqL K H1 b ys ∧ R (Itz K a b) H1
theorem pi_zipH {X : Cx} {e e2 : Expr} {ta : TA} {p pos tpos : Pos} {elts : List Expr} {kk : Nat} (hg : Gl X "zip") (hm : X.mg "zip" = none) (ha : PA X [e, e2] ta)
    (hs : starEach [e, e2] X.env = (false, eval e X.env) :: starEach [e2] X.env := by rfl) (hpl : (backTo pos (starEach [e2] X.env)).any (·.1) = false := by rfl) :
    PIH X (.Tuple elts kk tpos) (.Call (.Name "zip" p) [e, e2] [] pos) (iZipH X.K ta) := by
  refine ⟨fun pins s σ H R I h => ?_⟩
  refine Call_ (ld_blt I hg hm PyProof.Rows.boot_zip (PyProof.Rows.callWith_type1 (thn (ha.run pos pins s σ H _ I h) fun us s1 ⟨vs, H1, I1, r1, q1⟩ => ?_) hs hpl))
  obtain ⟨a, b, xs, ys, ex, hqx, hqy, q⟩ := q1
  subst ex
  cases r1 with
  | cons r rr =>
    cases rr with
    | cons r' rr =>
      cases rr
      cases r
      cases r'
      have fresh5 : ∀ c, c ∈ [s1.heap.objs.size + 4, s1.heap.objs.size + 2, s1.heap.objs.size + 3, s1.heap.objs.size, s1.heap.objs.size + 1] → FpOk X pins H1 c := fun c hcm => by
        have hle : s1.heap.objs.size ≤ c := by simp at hcm; omega
        exact I1.fpOk hle (I1.hok.fresh hle)
      obtain ⟨its, rv, p1, _⟩ := I1.list hqx
      obtain ⟨its2, rv2, p2, _⟩ := I1.list hqy
      refine call_zip_2 p1.isList p2.isList fun h' hz hTI hTO h1 h2 hsz hk => wpAny_pyIter_zip hz ?_
      have I2 : Inv X pins σ H1 { s1 with heap := h' } := I1.kept (t' := s1.toks) hk
      exact ⟨s1.heap.objs.size + 4, [s1.heap.objs.size + 4, s1.heap.objs.size + 2, s1.heap.objs.size + 3, s1.heap.objs.size, s1.heap.objs.size + 1], _, _, H1, rfl, I2, turn_zipH (PySem.W.ktu_apart s1.heap.objs.size a b p1.lt p2.lt), ⟨hz, hTI, ⟨_, _, hTO⟩, h1, h2⟩, fresh5, q⟩
end Iv
set_option maxHeartbeats 2000000
/-! Iv12: within an except suite: a tuple unpacked, a list comprehension. -/
namespace Iv
open PySem PySem.Spec PyProof.Rows L2 L2H HotX
section
variable {prog : Program} {w : World} {A : Around} {E : Value → Shared → Prop} {s : Shared}
theorem next_tuple_end_hot {it t x1 : Addr} {i : Nat} {items} {Q : Option Value → Shared → Prop} (hot : HotAt A x1 s.heap) (hni : x1 ≠ it) (hit : IsTupIter s.heap it t i) (ht : IsTup s.heap t items) (hx : items[i]? = none)
    (hQ : ∀ h', Heap.ExtBut it s.heap h' → Q none { s with heap := h' }) : wpAny (model prog w) A (pyNext (.ref it)) Q E s := by
  obtain ⟨o, ho, hc, hd⟩ := id hit
  obtain ⟨ol, hol, _, nl, hdl⟩ := ht
  obtain ⟨hh, o1, vs1, h1, d1, c1⟩ := hot
  unfold pyNext
  refine wpAny_bind (wpAny_attempt (wpAny_callSpecial?_slot (name := Str.ofString "__next__") hit.typeIs slot_tupleiter_next
    (wpAny_call_entry slot_tupleiter_next hit.typeIs entry_tupleiter_next ?_ (args_tupleiter_next _))))
  show wpAny _ _ (field (.ref it) 0 >>= _) _ _ s
  refine wpAny_bind (wpAny_field ho hd (x := .ref t) rfl ?_)
  show wpAny _ _ (if (Value.ref t == Value.none) = true then _ else _) _ _ s
  rw [if_neg (show ¬ ((Value.ref t == Value.none) = true) from Bool.false_ne_true)]
  show wpAny _ _ (field (.ref it) 1 >>= _) _ _ s
  refine wpAny_bind (wpAny_field ho hd (x := .int i 0) rfl ?_)
  show wpAny _ _ (seqItems? (.ref t) >>= _) _ _ s
  refine wpAny_bind (wpAny_seqItems hol hdl ?_)
  simp only [Int.toNat_natCast, hx]
  refine wpAny_bind (wpAny_rule (wpAny_bind (wpAny_setField ho hd (by simp) ?_)))
  show wpAny _ _ (newExc (.type "StopIteration") [] >>= _) _ _ _
  refine wpAny_bind ?_
  simp only [newExc, newTuple]
  refine wpAny_bind (wpAny_newObj_type ?_ (by size_fits))
  refine wpAny_bind (m := firstArgMember _ _) (wpAny_of_eq (a := Value.none) (by first | rfl | (simp only [firstArgMember]; rfl)) ?_)
  refine wpAny_newObj_type ?_ (by size_fits)
  have g1 : ∀ {h' : Heap}, Heap.ExtBut it s.heap h' → h'.get? x1 = some o1 := fun e => e _ _ hni h1
  refine raiseNew_hot ⟨hh, o1, vs1, g1 (((Heap.SameBut.update ..).extBut.push _).push _), d1, c1⟩ (Nat.ne_of_lt (Heap.lt_size (g1 ((Heap.SameBut.update ..).extBut.push _)))) (Heap.get?_push_size _ rfl) rfl (by first | (simp; done) | (simp; omega) | (simp only [Array.size_append]; simp; omega)) ?_
  refine wpAny_bind (wpAny_isInstance (T := "StopIteration") (b := true) ⟨_, Heap.get?_update_self _ (Heap.get?_push_size _ rfl) rfl, rfl⟩ isSubtype_stop ?_)
  refine wpAny_pure (hQ _ fun b u hb e => ?_)
  refine (Heap.get?_update_other _ _ ?_).trans ((((Heap.SameBut.update ..).extBut.push _).push _) b u hb e)
  exact Nat.ne_of_gt (Heap.lt_size (((Heap.SameBut.update ..).extBut.push _) b u hb e))
theorem unpackItems_tuple_hot {t x1 : Addr} {items : Array Value} {Q : List Value → Shared → Prop} (hot : HotAt A x1 s.heap) (ht : IsTup s.heap t items)
    (hQ : ∀ h', Heap.ExtBut s.heap.objs.size s.heap h' → Q items.toList { s with heap := h' }) : wpAny (model prog w) A (unpackItems (.ref t) items.size none) Q E s := by
  have hlt : t ≠ s.heap.objs.size := by obtain ⟨o, ho, _⟩ := ht; exact Nat.ne_of_lt (Heap.lt_size ho)
  obtain ⟨hh, o1, vs1, h1, d1, c1⟩ := hot
  have hx1 : x1 ≠ s.heap.objs.size := Nat.ne_of_lt (Heap.lt_size h1)
  unfold unpackItems
  refine wpAny_bind ?_
  unfold notIterableAtAll
  refine wpAny_bind (wpAny_specialOf ht.typeIs slot_tuple_iter.lookup ?_)
  refine wpAny_pure ?_
  simp only [Bool.false_eq_true, if_false]
  refine wpAny_bind (wpAny_holding (iter_tuple ht ?_))
  refine wpAny_bind (wpAny_holding (draw_tuple hlt items.size 0 _ _ ⟨_, Heap.get?_push_size _ rfl, rfl, rfl⟩ (ht.push _) (by omega) fun h₁ hit₁ hs₁ => ?_))
  have hall : List.take items.size (List.drop 0 items.toList) = items.toList := by
    rw [List.drop_zero]; exact List.take_of_length_le (by simp)
  rw [hall]
  rw [if_neg (by simp)]
  have ht₁ : IsTup h₁ t items := (ht.push _).extBut hs₁.extBut hlt
  refine wpAny_bind (wpAny_holding (next_tuple_end_hot ⟨hh, o1, vs1, hs₁.extBut _ _ hx1 (Heap.get?_push_of_some _ h1), d1, c1⟩ hx1 hit₁ ht₁ (by simp) fun h₂ he₂ => ?_))
  simp only [Option.isSome_none, Bool.false_eq_true, if_false]
  exact wpAny_pure (hQ h₂ fun b o hb e => he₂ b o hb (hs₁.extBut b o hb (Heap.get?_push_of_some _ e)))
end
section
variable {X : Cx} {pos : Pos}
theorem pg_tupH {es : List Expr} {k : Nat} {t : TGs} {n : Nat} (hc : HotC X) (h : PGs X es t)
    (hn : (assignEach es X.env).length = n := by rfl) (hst : (assignEach es X.env).findIdx? (·.1) = none := by rfl) : PG X (.Tuple es k pos) (gTup X.K n t) := by
  refine ⟨fun pins s σ H v u Q I r hw => ?_⟩
  obtain ⟨a, xs, e1, hq, hl, hw⟩ := hw
  subst e1
  cases r
  obtain ⟨its, rv, ht, hz⟩ := I.tuple hq
  obtain ⟨x1, hot⟩ := hc.at I
  rw [assign_Tuple]
  refine wpAny_bind (wpAny_standAt ?_)
  unfold unpack
  have hsz : (assignEach es X.env).length = its.toArray.size := by simp [hn, ← hl, rv.length]
  rw [hsz, hst]
  refine wpAny_bind (wpAny_holding (unpackItems_tuple_hot hot ht fun h' hx => ?_))
  have I1 : Inv X pins σ H { s with heap := h' } := I.kept (t' := s.toks) fun b o e => hx b o (Nat.ne_of_lt (Heap.lt_size e)) e
  exact h.run pins _ σ H xs _ Q I1 (by simpa using rv) hw
end
/-- the block's context, the handled exception kept -/
abbrev blkH (X : Cx) (s : Shared) (H : Hp) (scope : Scope) (cenv : PySem.Env) (fp : List Addr) : Cx := { X with s_0 := s, H_0 := H, env := cenv, outer := X.stack, ex := fp, fn := fun x => scope.names.lookup x == some .cell, xe := fun _ _ => False }
theorem block_startH {X : Cx} {pins : List (Addr × Obj)} {σ : L2.St} {H : Hp} {s : Shared} {scope : Scope} {own : List (Str × Nat)} {fp : List Addr} (I : Inv X pins σ H s) (ok : BlkOk X.N X.env.scope scope own) (hN : X.N.Nodup) (hfp : ∀ b ∈ fp, FpOk X pins H b ∧ b < s.heap.objs.size) :
    Inv (blkH X s H scope (compEnvC scope (cellsFrom (s.heap.objs.size + 1) scope.names (cloFrom X.env.cells scope.names [])) s.heap.objs.size X.env) fp) [] (L2.wipe σ (own.map (·.2))) H { s with heap := pushCells (s.heap.push { cls := .type "dict", data := .dict #[] }) scope.names } := by
  have J := block_start I ok hN hfp
  refine ⟨⟨J.ok.mod, J.ok.kind, J.ok.glob, J.ok.blt, J.ok.above, J.ok.inj, J.ok.has, J.ok.cab, J.ok.hd, J.ok.frames, J.ok.stk, J.ok.exf, J.ok.bs, J.ok.bsz, J.ok.noex, J.ok.exfs, J.ok.funs, J.ok.frf⟩, J.os, J.bare, ⟨J.base.keep, J.base.slot, J.base.free, J.base.there, J.base.tups, J.base.frzs, J.base.tbls⟩, J.loc, J.cell, J.free, J.freeC, fun p hp => ?_, J.hok, J.len⟩
  have hp' : p ∈ X.pn := by simpa using hp
  obtain ⟨h1, h2, h3, h4, h5⟩ := I.pin p (List.mem_append_left _ hp')
  refine ⟨pushCells_keeps _ _ _ _ (Heap.get?_push_of_some _ h1), h2, Nat.ne_of_lt (Heap.lt_size h1), fun hm => ?_, h5⟩
  rcases List.mem_cons.mp (I.stkSub p.1 hm) with z | z
  · exact h3 z
  · exact h4 z
theorem lc_coreH {X : Cx} {pins : List (Addr × Obj)} {s : Shared} {σ : L2.St} {H : Hp} {Q : VK} {elt tg iter : Expr} {ifs : List Expr} {scope : Scope} {own : List (Str × Nat)} {pos pos' : Pos} {wi : TI} {g : TG} {tt : TT} {te : TE} {use : Option (Value → Sem Unit)} {Qf : Value → Shared → Prop}
    (hc : HotC X) (hN : X.N.Nodup) (I : Inv X pins σ H s) (hi : PIH X tg iter wi) (ok : BlkOk X.N X.env.scope scope own)
    (hg : ∀ (s : Shared) (H : Hp) (C : Addr) (cl : List (Str × Addr)) (fp : List Addr), PG (blkH X s H scope (compEnvC scope cl C X.env) fp) tg g) (ht : ∀ (s : Shared) (H : Hp) (C : Addr) (cl : List (Str × Addr)) (fp : List Addr), PTs (blkH X s H scope (compEnvC scope cl C X.env) fp) ifs tt)
    (he : ∀ (s : Shared) (H : Hp) (C : Addr) (cl : List (Str × Addr)) (fp : List Addr), PE (blkH X s H scope (compEnvC scope cl C X.env) fp) elt te) (hs : ∀ x, foldedSetIterable iter X.env x = pure x)
    (h : tLc wi g tt te (own.map (·.2)) σ H Q)
    (hRR : ∀ D C s' m H', Inv X pins σ H' s' → Q (.ref D) H' → s'.heap.Ns C m → FpOk X pins H' C → compPost (model X.prog X.w) X.A X.xe use Qf (.ref D) C (.ok .next) s') :
    wpAny (model X.prog X.w) X.A (comprehension (.ListComp elt [⟨tg, iter, ifs, 0⟩] scope pos) scope X.env pos' (newList []) false (eval iter X.env) use) Qf X.xe s := by
  have hfree : ∀ y ∈ scope.names, y.2 = .free → ∃ c, X.env.cells.lookup y.1 = some c := fun y hy e => by
    rcases ok.free y hy e with k | k
    · exact I.ok.has _ (.inl k)
    · exact I.ok.has _ (.inr k)
  refine wpAny_comprehension_free (use := use) rfl hs (closure_ok hfree) ok.kind (fun y hy e => by rw [ok.uniq y hy, e])
    (thn (hi.run pins s σ H _ I h) fun xv s1 hx => thn hx fun itv s2 h2 => ?_)
  obtain ⟨it, fp, tn, J, H2, e, I2, T, st2, f2, q⟩ := h2
  subst e
  refine wpAny_newObj_type (newEnv_comp ?_) (by show 0 ≤ sizeLine; decide)
  generalize hD : s2.heap.objs.size = D
  have hDn : H2 D = none := I2.hok.fresh (Nat.le_of_eq hD)
  obtain ⟨W, ⟨m0, w0⟩, turn⟩ := q D hDn
  generalize hs3 : ({ s2 with heap := s2.heap.push { cls := .type "list", data := .seq ([] : List Value).toArray } } : Shared) = s3
  have I3 : Inv X pins σ (upd H2 D (.lst [])) s3 := by
    rw [← hs3]
    refine I2.laid (t' := s2.toks) (fun b o e => Heap.get?_push_of_some _ e) (Nat.le_of_eq hD) ⟨Nat.zero_le _, [], 0, .nil, ?_⟩
    rw [← hD]
    exact Heap.get?_push_size _ rfl
  have h3 : s3.heap = s2.heap.push { cls := .type "list", data := .seq ([] : List Value).toArray } := by rw [← hs3]
  have sz : ∀ b ∈ fp, b < s2.heap.objs.size := fun b hb => by
    obtain ⟨o, e, _⟩ := T.obj _ _ st2 b hb
    exact Heap.lt_size e
  have f3 : ∀ b ∈ fp, FpOk X pins (upd H2 D (.lst [])) b ∧ b < s3.heap.objs.size := fun b hb => by
    have hlt := sz b hb
    refine ⟨⟨?_, (f2 b hb).2⟩, by rw [h3, Heap.size_push]; exact Nat.lt_succ_of_lt hlt⟩
    rw [upd_ne (by rw [← hD]; exact Nat.ne_of_lt hlt)]
    exact (f2 b hb).1
  have st3 : tn 0 s3.heap := T.keep _ _ _ st2 fun b _ o e => by rw [h3]; exact Heap.get?_push_of_some _ e
  have I4 := block_startH I3 ok hN f3
  have pg := hg s3 (upd H2 D (.lst [])) s3.heap.objs.size (cellsFrom (s3.heap.objs.size + 1) scope.names (cloFrom X.env.cells scope.names [])) fp
  have pt := ht s3 (upd H2 D (.lst [])) s3.heap.objs.size (cellsFrom (s3.heap.objs.size + 1) scope.names (cloFrom X.env.cells scope.names [])) fp
  have pe := he s3 (upd H2 D (.lst [])) s3.heap.objs.size (cellsFrom (s3.heap.objs.size + 1) scope.names (cloFrom X.env.cells scope.names [])) fp
  show codeAny _ _ (.compStart (.ListComp elt [⟨tg, iter, ifs, 0⟩] scope pos) 0 (.ref it) (.ref D) (compEnvC scope (cellsFrom (s3.heap.objs.size + 1) scope.names (cloFrom X.env.cells scope.names [])) s3.heap.objs.size X.env)) (compPost (model X.prog X.w) X.A X.xe use Qf (.ref D) s3.heap.objs.size) { s3 with heap := pushCells (s3.heap.push { cls := .type "dict", data := .dict #[] }) scope.names }
  have nfp : ∀ b ∈ fp, (upd H2 D (.lst [])) b = none := fun b hb => (f3 b hb).1.1
  generalize hce : compEnvC scope (cellsFrom (s3.heap.objs.size + 1) scope.names (cloFrom X.env.cells scope.names [])) s3.heap.objs.size X.env = ce at I4 pg pt pe ⊢
  have cL : ce.locals = s3.heap.objs.size := by subst hce; rfl
  generalize hH3 : upd H2 D (.lst []) = H3 at I3 I4 pg pt pe w0 nfp f3
  generalize hs4 : ({ s3 with heap := pushCells (s3.heap.push { cls := .type "dict", data := .dict #[] }) scope.names } : Shared) = s4 at I4 ⊢
  have st4 : tn 0 s4.heap := T.keep _ _ _ st3 fun b _ o e => by rw [← hs4]; exact pushCells_keeps _ _ _ _ (Heap.get?_push_of_some _ e)
  have hcB : HotC (blkH X s3 H3 scope ce fp) := hc
  have stat : ∀ {σ' : L2.St} {H' : Hp} {s' : Shared}, Inv (blkH X s3 H3 scope ce fp) [] σ' H' s' → (∀ b ∈ fp, H' b = none) → ∀ b ∈ fp, FpOk (blkH X s3 H3 scope ce fp) [] H' b := fun {σ' H' s'} I' hn b hb =>
    ⟨hn b hb, (I'.ok.exf b hb).1, I'.ok.exfs b hb, .inl hb, fun x c e => (I'.ok.exf b hb).2 x c e, fun p hp => (f3 b hb).1.2.2.2.2.2 p (List.mem_append_left _ (by simpa using hp))⟩
  have loop : codeAny (model X.prog X.w) X.A (.compLoop (.ListComp elt [⟨tg, iter, ifs, 0⟩] scope pos) 0 (.ref it) (.ref D) ce) (compPost (model X.prog X.w) X.A X.xe use Qf (.ref D) s3.heap.objs.size) s4 := by
    refine compLoop_any (fun n s' => ∃ i H', Inv (blkH X s3 H3 scope ce fp) [] (L2.wipe σ (own.map (·.2))) H' s' ∧ tn i s'.heap ∧ (∀ b ∈ fp, H' b = none) ∧ W i n H') ?_ m0 ⟨0, H3, I4, st4, nfp, w0⟩
    rintro n s5 ⟨i, H5, I5, st5, n5, w5⟩
    rcases turn i n H5 w5 with ⟨stop, qq⟩ | ⟨go, Nx, hNx, step⟩
    · have td := T.done (blkH X s3 H3 scope ce fp) rfl rfl rfl hcB i [] s5 _ H5 (fun _ _ => False) I5 (stat I5 n5) st5 stop
      refine thnF td fun r s6 ⟨hr, I6⟩ => ?_
      subst hr
      have I7 : Inv X pins σ H5 s6 := I3.call' (ch := fp) I6.os I6.base I6.hok I6.bare fun b hb => ⟨(f3 b hb).1.2.2.2.1, (f3 b hb).1.2.1, (f3 b hb).1.2.2.2.2.1, (f3 b hb).1.2.2.2.2.2⟩
      have nC : H5 s3.heap.objs.size = none := by
        have z : H5 ce.locals = none := I6.free
        rw [cL] at z
        exact z
      obtain ⟨m, hn, _⟩ := I6.loc
      have hn : s6.heap.Ns ce.locals m := hn
      rw [cL] at hn
      exact hRR D s3.heap.objs.size s6 m H5 I7 qq hn (I3.fpOk (Nat.le_refl _) nC)
    · have ti := T.item (blkH X s3 H3 scope ce fp) rfl rfl rfl hcB i [] s5 _ H5 (fun _ _ => False) I5 (stat I5 n5) st5 go
      refine thnF ti fun r s6 ⟨u, hr, h6⟩ => ?_
      subst hr
      refine thnF h6 fun _ s7 ⟨x, H7, I7, r7, y7, st7, n7⟩ => ?_
      have I7' := I7.pinned (stat I7 n7) (T.obj _ _ st7)
      refine thnF (pg.run _ s7 _ H7 x u _ I7' r7 (step x H7 y7)) fun _ s8 ⟨σ8, H8, I8, hw8, q8⟩ => ?_
      refine thnF (pt.run _ s8 σ8 H8 _ I8 q8) fun b s9 ⟨H9, I9, q9⟩ => ?_
      have fin : ∀ {s' : Shared} {H' : Hp}, Inv (blkH X s3 H3 scope ce fp) ([] ++ pinsAt fp s7.heap) σ8 H' s' → Nx H' → ∃ m, m < n ∧ ∃ i H', Inv (blkH X s3 H3 scope ce fp) [] (L2.wipe σ (own.map (·.2))) H' s' ∧ tn i s'.heap ∧ (∀ b ∈ fp, H' b = none) ∧ W i m H' := fun {s' H'} I' nx => by
        obtain ⟨m', hm, w'⟩ := hNx H' nx
        have pin' : ∀ b ∈ fp, ∀ o, s7.heap.get? b = some o → s'.heap.get? b = some o ∧ H' b = none := fun b hb o e =>
          let z := I'.pin (b, o) (List.mem_append_right _ (List.mem_append_right _ (mem_pinsAt hb e)))
          ⟨z.1, z.2.1⟩
        have hl : (L2.wipe σ (own.map (·.2))).length = σ8.length := by rw [← hw8, wipe_length]
        refine ⟨m', hm, i + 1, H', (I'.unpinned (pins := [])).weak hl (fun j v e => ?_), T.keep _ _ _ st7 fun b hb o e => (pin' b hb o e).1, fun b hb => ?_, w'⟩
        · rw [← hw8] at e
          exact (wipe_some e).1
        · obtain ⟨o, e, _⟩ := T.obj _ _ st7 b hb
          exact (pin' b hb o e).2
      cases b with
      | false =>
        simp only [Bool.false_eq_true, if_false] at q9 ⊢
        exact fin I9 q9
      | true =>
        simp only [if_true] at q9 ⊢
        refine thnF (pe.run _ s9 σ8 H9 _ I9 q9) fun z s10 ⟨yv, H10, I10, r10, acc, hD10, hz10, nx⟩ => ?_
        exact app_ok (X := blkH X s3 H3 scope ce fp) I10 hD10 hz10 r10 fun s11 I11 => fin I11 nx
  exact codeAny_compStart_list loop (T.self X.A 0 _ _ _ st4 loop)
theorem pe_lcH {X : Cx} {elt tg iter : Expr} {ifs : List Expr} {scope : Scope} {own : List (Str × Nat)} {pos : Pos} {wi : TI} {g : TG} {tt : TT} {te : TE} (hc : HotC X) (hN : X.N.Nodup) (hi : PIH X tg iter wi) (ok : BlkOk X.N X.env.scope scope own)
    (hg : ∀ (s : Shared) (H : Hp) (C : Addr) (cl : List (Str × Addr)) (fp : List Addr), PG (blkH X s H scope (compEnvC scope cl C X.env) fp) tg g) (ht : ∀ (s : Shared) (H : Hp) (C : Addr) (cl : List (Str × Addr)) (fp : List Addr), PTs (blkH X s H scope (compEnvC scope cl C X.env) fp) ifs tt)
    (he : ∀ (s : Shared) (H : Hp) (C : Addr) (cl : List (Str × Addr)) (fp : List Addr), PE (blkH X s H scope (compEnvC scope cl C X.env) fp) elt te) (hs : ∀ x, foldedSetIterable iter X.env x = pure x := by intro _; rfl) :
    PE X (.ListComp elt [⟨tg, iter, ifs, 0⟩] scope pos) (tLc wi g tt te (own.map (·.2))) := by
  refine ⟨fun pins s σ H Q I h => ?_⟩
  rw [eval_ListComp]
  refine lc_coreH hc hN I hi ok hg ht he hs h fun D C s' m H' I' q hn f => ⟨m, hn, fun h'' sb => ?_⟩
  obtain ⟨f0, f1, f2, f3, f4, f5⟩ := f
  exact ⟨.ref D, H', I'.turned (t' := s'.toks) (fun b o hb e => (sb.2 b hb).trans e) f0 f1 f3 f4 f5, rfl, q⟩
end Iv
set_option maxHeartbeats 2000000
/-! Iv13: lambdas. -/
namespace Iv
open PySem PySem.Spec PyProof.Rows L2
section
variable {K : PySem.W.Frag} {G G' : Gx} {N : Addr → Prop} {μ : List Addr} {H : Hp}
mutual
/-- a value without lambdas stands for its datum, whichever lambdas live -/
theorem Rp.regs (h : G.toGs = G'.toGs) : ∀ {d : D} {v : V}, noClo d = true → Rp K G N μ H v d → Rp K G' N μ H v d
  | .non, _, _, r => by cases r; exact .non
  | .bl _, _, _, r => by cases r; exact .bl _
  | .int _, _, _, r => by cases r; exact .int _
  | .str _, _, _, r => by cases r; exact .str _
  | .tup ds, _, nc, r => by
    cases r with
    | tupH a b c => exact .tupH a b (Rps.regs h (by simpa [noClo] using nc) c)
    | tupK a c => exact .tupK a (Rps.regs h (by simpa [noClo] using nc) c)
  | .lst ds, _, nc, r => by
    cases r with
    | lst a b c => exact .lst a b (Rps.regs h (by simpa [noClo] using nc) c)
  | .obj _, _, _, r => by cases r with | obj e => exact .obj e
  | .fn _, _, _, r => by cases r with | fn e => exact .fn (by rw [← h]; exact e)
  | .clo _ _, _, nc, _ => by simp [noClo] at nc
theorem Rps.regs (h : G.toGs = G'.toGs) : ∀ {ds : List D} {vs : List V}, noClos ds = true → Rps K G N μ H vs ds → Rps K G' N μ H vs ds
  | [], _, _, r => by cases r; exact .nil
  | d :: ds, _, nc, r => by
    simp only [noClos, Bool.and_eq_true] at nc
    cases r with
    | cons r q => exact .cons (Rp.regs h nc.1 r) (Rps.regs h nc.2 q)
end
mutual
/-- more lambdas live -/
theorem Rp.up (h : G.toGs = G'.toGs) (hc : ∀ a k, G.clo a = some k → G'.clo a = some k) : ∀ {v : V} {d : D}, Rp K G N μ H v d → Rp K G' N μ H v d
  | _, _, .non => .non
  | _, _, .bl b => .bl b
  | _, _, .int i => .int i
  | _, _, .str x => .str x
  | _, _, .tupH r n q => .tupH r n (Rps.up h hc q)
  | _, _, .tupK r q => .tupK r (Rps.up h hc q)
  | _, _, .lst r n q => .lst r n (Rps.up h hc q)
  | _, _, .obj e => .obj e
  | _, _, .fn e => .fn (by rw [← h]; exact e)
  | _, _, .cloT e n e2 n2 => .cloT (by rw [← h]; exact e) n (by rw [← h]; exact e2) n2
  | _, _, .cloG e i e2 n2 q => .cloG (hc _ _ e) i (by rw [← h]; exact e2) n2 (Rps.up h hc q)
theorem Rps.up (h : G.toGs = G'.toGs) (hc : ∀ a k, G.clo a = some k → G'.clo a = some k) : ∀ {vs : List V} {ds : List D}, Rps K G N μ H vs ds → Rps K G' N μ H vs ds
  | _, _, .nil => .nil
  | _, _, .cons r q => .cons (Rp.up h hc r) (Rps.up h hc q)
end
theorem StOk.regs {S : Store} (h : G.toGs = G'.toGs) (s : StOk K G N μ H S) : StOk K G' N μ H S := ⟨s.len, s.nd, fun n a o e1 e2 => by
  have q := s.ob n a o e1 e2
  cases o with
  | lst ds =>
    obtain ⟨xs, e, q, nc⟩ := q
    exact ⟨xs, e, q.regs h nc, nc⟩
  | ins c fs => exact q⟩
theorem RelS.regs {S : Store} {fr : Fr} (h : G.toGs = G'.toGs) (r : RelS K G fr μ H S) : RelS K G' fr μ H S := ⟨r.step, r.mtr, r.st.regs h, by rw [← h]; exact r.tabs⟩
end
/-- the lambda is made: its code object is new, or found in the table; its object is new -/
theorem lam_make3 {X : Cx} {pins : List (Addr × Obj)} {σ : L2.St} {H : Hp} {s : Shared} {T : List (Addr × Str)} {c P : Addr} {params : Arguments} {body : Expr} {scope : Scope} {pos : Pos} {E : Value → Shared → Prop} {Q : Value → Shared → Prop} (I : Inv X pins σ H s) (TB : LamX.TabB X.base X.mg c P) (hcode : X.env.code = .ref c)
    (hm : (P, X.env.qual ++ "<lambda>") ∈ T) (hu : ∀ p ∈ T, p.1 = P → p.2 = X.env.qual ++ "<lambda>") (hT : LamX.Tabs T H) (hdef : defaultsOf params X.env = ([], [])) (hfree : ∀ y ∈ scope.names, y.2 = .free → ∃ c, X.env.cells.lookup y.1 = some c)
    (h : ∀ (f c' : Addr) (pm ctv : Value) (H1 : Hp) (s' : Shared), Inv X pins σ H1 s' → LamX.ExtN H H1 → (∀ b, H b ≠ none → H1 b ≠ none) → LamX.Tabs T H1 → s.heap.objs.size ≤ f →
      s'.heap.get? f = some (PySem.W.kla_obj "<lambda>" (X.env.qual ++ "<lambda>") params body scope (cloFrom X.env.cells scope.names []) pm c' ctv) → H1 f = none → f ∉ frs X.stack → H1 c' = some (LamX.CodeO c' (X.env.qual ++ "<lambda>")) → Q (.ref f) s') :
    wpAny (model X.prog X.w) X.A (eval (.Lambda params body scope pos) X.env) Q E s := by
  obtain ⟨ps, hP, ht, ha⟩ := hT _ hm
  refine PySem.W.kla_eval hdef ?_
  have bP : s.heap.BuiltinsAt X.mg P := TB.bm.keeps I.bk
  have hP' : s.heap.get? P = some { cls := .none, data := .fields ps } := I.hok P _ hP
  have nofr : ∀ f, s.heap.objs.size ≤ f → f ∉ frs X.stack := fun f hf z => by
    rcases List.mem_cons.mp (I.stkSub _ z) with e | e
    · have h1 := I.lt
      rw [← e] at h1
      exact Nat.lt_irrefl _ (Nat.lt_of_lt_of_le h1 hf)
    · exact I.nofs hf e
  cases hc : codeAmong pos ps.toList with
  | none =>
    refine PySem.W.kla_makeFunction (mg := X.mg) (c := c) (P := P) (ps := ps) (closure_ok hfree) I.ok.glob (I.mod.glob.keeps I.bk) hcode (TB.code.keeps I.bk) hP' ht hc TB.gP bP fun c' ctv h' tk hx hge hlt hrec htb => ?_
    obtain ⟨c2, oc, vs, t, e2, hoc, hd, hv⟩ := hrec
    cases e2
    have hsz : s.heap.objs.size ≤ h'.objs.size := Nat.le_trans hge (Nat.le_of_lt hlt)
    have nC : H c' = none := I.hok.fresh hge
    have I1 := LamX.inv_table (t' := tk) (more := #[rawInt pos.line, rawInt pos.col, .ref c']) (h' := h'.push (PySem.W.kla_obj "<lambda>" (X.env.qual ++ "<lambda>") params body scope (cloFrom X.env.cells scope.names []) ((X.mg "__name__").getD .none) c' ctv)) I hP
      (fun b o hb e => Heap.get?_push_of_some _ (hx b o hb e)) (Heap.get?_push_of_some _ htb) hge ⟨oc, vs, t, Heap.get?_push_of_some _ hoc, hd, hv⟩
    have hE : LamX.ExtN H (upd (upd H P (.tbl (ps ++ #[rawInt pos.line, rawInt pos.col, .ref c']))) c' (LamX.CodeO c' (X.env.qual ++ "<lambda>"))) := fun b o e n => by
      rw [upd_ne (ne_of_none e nC), upd_ne (fun z => n ps (Option.some.inj (e.symm.trans (by rw [z]; exact hP))))]
      exact e
    have hN : ∀ b, H b ≠ none → (upd (upd H P (.tbl (ps ++ #[rawInt pos.line, rawInt pos.col, .ref c']))) c' (LamX.CodeO c' (X.env.qual ++ "<lambda>"))) b ≠ none := fun b e => by
      by_cases z : b = c'
      · rw [z, upd_same]; simp
      · rw [upd_ne z]
        by_cases z2 : b = P
        · rw [z2, upd_same]; simp
        · rw [upd_ne z2]; exact e
    have eL : (ps ++ #[rawInt pos.line, rawInt pos.col, .ref c']).toList = ps.toList ++ [rawInt pos.line, rawInt pos.col, .ref c'] := by simp
    refine h h'.objs.size c' ((X.mg "__name__").getD .none) ctv _ _ I1 hE hN (fun p hp => ?_) hsz (Heap.get?_push_size _ rfl) ?_ (nofr _ hsz) upd_same
    · by_cases hb : p.1 = P
      · rw [hu p hp hb, hb]
        refine ⟨_, by rw [upd_ne (ne_of_none hP nC), upd_same], by rw [eL]; exact PySem.TriplesOk_snoc _ _ _ _ ht, fun p' cv hcv => ?_⟩
        rw [eL] at hcv
        rcases LamX.among_app _ ht hcv with z | z
        · obtain ⟨c0, e1, e2⟩ := ha p' cv z
          exact ⟨c0, e1, hE _ _ e2 LamX.codeO_ne⟩
        · exact ⟨c', z, upd_same⟩
      · obtain ⟨ps', a1, a2, a3⟩ := hT p hp
        refine ⟨ps', by rw [upd_ne (ne_of_none a1 nC), upd_ne hb]; exact a1, a2, fun p' cv hcv => ?_⟩
        obtain ⟨c0, e1, e2⟩ := a3 p' cv hcv
        exact ⟨c0, e1, hE _ _ e2 LamX.codeO_ne⟩
    · have n1 : h'.objs.size ≠ c' := Nat.ne_of_gt hlt
      have n2 : h'.objs.size ≠ P := Nat.ne_of_gt (Nat.lt_of_lt_of_le (Heap.lt_size hP') hsz)
      rw [upd_ne n1, upd_ne n2]
      exact I.hok.fresh hsz
  | some cv =>
    obtain ⟨c', e, hco⟩ := ha pos cv hc
    subst e
    refine PySem.W.kla_makeFunctionHit (mg := X.mg) (c := c) (P := P) (ps := ps) (closure_ok hfree) I.ok.glob (I.mod.glob.keeps I.bk) hcode (TB.code.keeps I.bk) hP' ht hc bP fun ctv h' tk hx hsz => ?_
    have I1 : Inv X pins σ H { s with heap := h'.push (PySem.W.kla_obj "<lambda>" (X.env.qual ++ "<lambda>") params body scope (cloFrom X.env.cells scope.names []) ((X.mg "__name__").getD .none) c' ctv), toks := tk } := I.kept fun b o e => Heap.get?_push_of_some _ (hx b o e)
    exact h h'.objs.size c' ((X.mg "__name__").getD .none) ctv H _ I1 (LamX.ExtN.refl H) (fun _ e => e) hT hsz (Heap.get?_push_size _ rfl) (I.hok.fresh hsz) (nofr _ hsz) hco
end Iv
set_option maxHeartbeats 2000000
/-! Iv14: a def called with a lambda. -/
namespace Iv
open PySem PySem.Spec PyProof.Rows L2
/-- the captured names: their slots in the maker, cells there, free in the lambda -/
inductive CapsOk (X : Cx) (scope : Scope) : List Nat → List Str → Prop
  | nil : CapsOk X scope [] []
  | cons {i : Nat} {x : Str} {is : List Nat} {xs : List Str} : X.N[i]? = some x → (X.env.scope.names.lookup x = some .cell ∨ X.env.scope.names.lookup x = some .free) → scope.names.lookup x = some .free → CapsOk X scope is xs → CapsOk X scope (i :: is) (x :: xs)
section
variable {X : Cx} {G : Gx} {W : WX} {n k j : Nat}
theorem caps_make {scope : Scope} {pins : List (Addr × Obj)} {fr : Fr} {μ O : List Addr} {H : Hp} {σ : L2.St} {s : Shared} {ρ : Env} {S : Store} (I : Inv X pins σ H s) (cb : Cb X) (rel : Rel X.K G fr μ O H σ ρ S) {is : List Nat} {xs : List Str} (co : CapsOk X scope is xs) :
    ∀ {cs : List D}, capsOf ρ is = some cs → ∃ (cells : List (Addr × Obj)) (vs : List V), Rps X.K G (NN fr.M O μ) μ H vs cs ∧ xs.length = vs.length ∧ (∀ p ∈ cells, LvO X.stack s H p.1 p.2) ∧
      ∀ (j : Nat) (x : Str) (v : V), xs[j]? = some x → vs[j]? = some v → ∃ c oc u, X.env.cells.lookup x = some c ∧ (c, oc) ∈ cells ∧ oc.data = .cell (some u) ∧ RelV v u := by
  induction co with
  | nil =>
    intro cs h
    cases h
    exact ⟨[], [], .nil, rfl, by simp, fun j x v h => by simp at h⟩
  | @cons i x is xs hN hk hf _ ih =>
    intro cs h
    unfold capsOf at h
    cases e : slotD ρ i with
    | none => rw [e] at h; cases h
    | some d =>
      rw [e] at h
      cases e2 : capsOf ρ is with
      | none => rw [e2] at h; cases h
      | some ds =>
        rw [e2] at h
        cases h
        obtain ⟨cells, vs, q, hl, hc, ha⟩ := ih e2
        obtain ⟨v, ev, rv⟩ := rel.env i _ (slot_val e)
        obtain ⟨m, _, hl2⟩ := I.loc
        have vis : Vis X.env.scope x := hk.elim (fun z => .inr (.inl z)) fun z => .inr (.inr z)
        obtain ⟨u, ru, lk⟩ := hl2 i x v hN ev vis
        rcases lk with ⟨k', _⟩ | ⟨_, c, ec, oc, hoc, hd⟩
        · have k' : X.env.scope.names.lookup x = some .local := k'
          rcases hk with z | z <;> rw [z] at k' <;> cases k'
        · refine ⟨(c, oc) :: cells, v :: vs, .cons rv q, by simp [hl], fun p hp => ?_, fun j y v' h1 h2 => ?_⟩
          · rcases List.mem_cons.mp hp with z | z
            · rw [z]; exact ⟨hoc, I.freeC x c ec, cb x c ec⟩
            · exact hc p z
          · cases j with
            | zero =>
              simp at h1 h2
              subst h1; subst h2
              exact ⟨c, oc, u, ec, by simp, hd, ru⟩
            | succ j =>
              obtain ⟨c', oc', u', g1, g2, g3, g4⟩ := ha j y v' (by simpa using h1) (by simpa using h2)
              exact ⟨c', oc', u', g1, List.mem_cons_of_mem _ g2, g3, g4⟩
theorem clo_lookup {cells : List (Str × Addr)} {names : List (Str × NameKind)} (hfree : ∀ y ∈ names, y.2 = .free → ∃ c, cells.lookup y.1 = some c) {y : Str} {c : Addr} (e : (cloFrom cells names []).lookup y = some c) : cells.lookup y = some c ∧ (y, NameKind.free) ∈ names := by
  rcases cloFrom_mem (PySem.mem_of_lookup e) with hm | ⟨h1, h2⟩
  · cases hm
  · obtain ⟨c1, hc⟩ := hfree _ h1 rfl
    have hc : cells.lookup y = some c1 := hc
    have e2 : c = c1 := by rw [h2, hc] <;> rfl
    rw [e2]
    exact ⟨hc, h1⟩
theorem clo_has {cells : List (Str × Addr)} {names : List (Str × NameKind)} (hfree : ∀ y ∈ names, y.2 = .free → ∃ c, cells.lookup y.1 = some c) {y : Str} (hl : names.lookup y = some .free) : ∃ c, (cloFrom cells names []).lookup y = some c ∧ cells.lookup y = some c := by
  obtain ⟨c, hc⟩ := mem_lookup (cloFrom_has (cells := cells) (acc := []) (PySem.mem_of_lookup hl))
  exact ⟨c, hc, (clo_lookup hfree hc).1⟩
theorem e_callC {R : Gx → Prop} {id lid : Nat} {is : List Nat} {x : Str} {f c P : Addr} {fd : FuncData} {ps caps : List Str} {params : Arguments} {body : Expr} {scope : Scope} {lpos p pos : Pos} {es : List Expr} {ies : Exs}
    (B : Bx X W k) (live : LiveX G X) (cb : Cb X) (F : FnS X.prog X.w X.K X.mg X.base G.toGs R j f fd ps n id) (hR : ∀ G' : Gx, G'.toGs = G.toGs → R G') (hj : j ≤ k) (hg : Gl X x) (hm : X.mg x = some (.ref f)) (hk : PySem.W.keepIn X.K (.ref f) = true) (hb : Binds X.K fd ps [])
    (TB : LamX.TabB X.base X.mg c P) (hcode : X.env.code = .ref c) (hmT : (P, X.env.qual ++ "<lambda>") ∈ G.T) (hu : ∀ p ∈ G.T, p.1 = P → p.2 = X.env.qual ++ "<lambda>")
    (hL : G.lamT lid = ⟨X.env.qual ++ "<lambda>", params, body, scope, caps⟩) (hdef : defaultsOf params X.env = ([], [])) (hco : CapsOk X scope is caps) (hall : ∀ y ∈ scope.names, y.2 = .free → y.1 ∈ caps ∧ (X.env.scope.names.lookup y.1 = some .cell ∨ X.env.scope.names.lookup y.1 = some .free))
    (ha : PA X es (tA X.K G W n ies)) (hdb : (x == ("__debug__" : Str)) = false := by decide) (he : starEach (.Lambda params body scope lpos :: es) X.env = (false, eval (.Lambda params body scope lpos) X.env) :: starEach es X.env := by rfl) (hpl : (backTo pos (starEach es X.env)).any (·.1) = false := by rfl)
    (hbt : backTo pos ((false, eval (.Lambda params body scope lpos) X.env) :: starEach es X.env) = (false, eval (.Lambda params body scope lpos) X.env) :: backTo pos (starEach es X.env) := by rfl) :
    PE X (.Call (.Name x p) (.Lambda params body scope lpos :: es) [] pos) (tE X.K G W n (.callc id lid is ies)) := by
  refine ⟨fun pins s σ H Q I ⟨fr, μ, O, ρ, S, rel, h⟩ => ?_⟩
  have h : End X.K G W (Rp X.K G) fr μ O H σ ρ (match capsOf ρ is with
    | some cs => (evs G n ies ρ S).bind fun ds S1 => (callF G.Φ G.Λ G.nm G.F n (.fn id) (.clo lid cs :: ds) S1).bind fun d S2 => if noClo d then .ok d S2 else .bad
    | none => .bad) Q := h
  cases ecs : capsOf ρ is with
  | none => rw [ecs] at h; exact h.elim
  | some cs =>
    rw [ecs] at h
    have h : End X.K G W (Rp X.K G) fr μ O H σ ρ ((evs G n ies ρ S).bind fun ds S1 => (callF G.Φ G.Λ G.nm G.F n (.fn id) (.clo lid cs :: ds) S1).bind fun d S2 => if noClo d then .ok d S2 else .bad) Q := h
    have hfree : ∀ y ∈ scope.names, y.2 = .free → ∃ c, X.env.cells.lookup y.1 = some c := fun y hy e => I.ok.has _ (hall y hy e).2
    refine wpAny_Call_Name_kw (ld_glob I hg hm ?_ hdb)
    refine PySem.W.callWith_K (h₀ := X.base) I.ok.mod.kin hk ?_ he hpl
    rw [he, hbt]
    refine Calls.spliced_cons (lam_make3 I TB hcode hmT hu rel.tabs hdef hfree fun fa c' pm ctv H1 s' I1 eN eK T1 hge hf hfn hfr hco' => ?_)
    -- the lambda stands while the other arguments are read
    have stp : Step μ [] H μ [] H1 := ⟨fun b o e _ _ t => eN b o e t, eK, ⟨[], by simp, by simp⟩, by simp⟩
    have rel1 : Rel X.K G fr μ O H1 σ ρ S := by
      refine rel.next stp ⟨rel.st.len, rel.st.nd, fun m a o e1 e2 => ?_⟩ T1
      have q := rel.st.ob m a o e1 e2
      obtain ⟨xs, ex⟩ := rel.st.isL (List.mem_of_getElem? e1)
      exact q.imp (fun b o e nb t => ⟨eN b o e t, nb⟩) (fun _ _ e => e) ((eN _ _ ex (fun ps z => by cases z)).trans ex.symm)
    have nl : fa ≠ X.env.locals := fun z => by
      have h1 := I.lt
      rw [← z] at h1
      exact Nat.lt_irrefl _ (Nat.lt_of_lt_of_le h1 hge)
    have nfs : fa ∉ X.fs := I.nofs hge
    have I1' : Inv X (pins ++ [(fa, PySem.W.kla_obj "<lambda>" (X.env.qual ++ "<lambda>") params body scope (cloFrom X.env.cells scope.names []) pm c' ctv)]) σ H1 s' := I1.pins_of fun q hq => by
      rcases List.mem_append.mp hq with z | z
      · exact I1.pin q (List.mem_append_right _ z)
      · rw [List.mem_singleton.mp z]
        exact ⟨hf, hfn, nl, nfs, fun v z => nomatch z⟩
    refine thn (ha.run pos _ s' σ H1 _ I1' ⟨fr, μ, O, ρ, S, rel1, (End.bind (RR := Rps X.K G) (End.later stp h))⟩) fun us s2 ⟨vs, H2, I2', r, ds, S2, μ2, s12, rel2, r2, h2⟩ => ?_
    have pf := I2'.pin (fa, _) (List.mem_append_right _ (List.mem_append_right _ (List.mem_singleton.mpr rfl)))
    have I2 : Inv X pins σ H2 s2 := I2'.unpinned
    refine ⟨I2.kIn, ?_⟩
    obtain ⟨cells, cvs, qc, hlen, hlv, hat⟩ := caps_make I2 cb rel2 hco ecs
    let kk : CloV := ⟨lid, PySem.W.kla_obj "<lambda>" (X.env.qual ++ "<lambda>") params body scope (cloFrom X.env.cells scope.names []) pm c' ctv, c', cloFrom X.env.cells scope.names [], cells, cvs⟩
    have kok : KOk (G.lamT lid) kk := by
      rw [hL]
      refine ⟨⟨pm, ctv, rfl⟩, hlen, fun j y v h1 h2 => ?_, fun y z c e1 e2 => I2.ok.inj y z c (clo_lookup hfree e1).1 (clo_lookup hfree e2).1, fun y c e => (hall _ (clo_lookup hfree e).2 rfl).1⟩
      obtain ⟨c0, oc, u, g1, g2, g3, g4⟩ := hat j y v h1 h2
      have hy : scope.names.lookup y = some .free := by
        have : ∀ {is : List Nat} {xs : List Str}, CapsOk X scope is xs → ∀ {j : Nat} {y : Str}, xs[j]? = some y → scope.names.lookup y = some .free := by
          intro is xs co
          induction co with
          | nil => intro j y h; simp at h
          | cons _ _ hf _ ih =>
            intro j y h
            cases j with
            | zero => simp at h; subst h; exact hf
            | succ j => exact ih (by simpa using h)
        exact this hco h1
      obtain ⟨c1, e1, e2⟩ := clo_has hfree hy
      rw [g1] at e2
      cases e2
      exact ⟨c0, oc, u, e1, g2, g3, g4⟩
    let G' : Gx := G.add fa kk kok
    have hGG : G.toGs = G'.toGs := rfl
    have nof : G.clo fa = none := by
      cases e : G.clo fa with
      | none => rfl
      | some k' =>
        have l := (live fa k' e).1.get
        exact absurd (Heap.lt_size l) (Nat.not_lt.mpr (Nat.le_trans I.sz hge))
    have hcl : ∀ a k', G.clo a = some k' → G'.clo a = some k' := fun a k' e => by
      show (if a = fa then some kk else G.clo a) = some k'
      rw [if_neg fun z => by rw [z, nof] at e; cases e]
      exact e
    have live2 : LiveAt G' X.stack s2 H2 := fun a k' e => by
      have e : (if a = fa then some kk else G.clo a) = some k' := e
      by_cases z : a = fa
      · rw [if_pos z] at e
        cases e
        rw [z]
        exact ⟨⟨pf.1, pf.2.1, hfr⟩, hlv⟩
      · rw [if_neg z] at e
        exact live.at I2 a k' e
    have hc2 : H2 c' = some (LamX.CodeO c' (X.env.qual ++ "<lambda>")) ∧ ¬ NN fr.M O μ2 c' := by
      have n1 : ¬ NN fr.M O μ c' := fun z => by
        obtain ⟨xs, e⟩ := rel1.nl c' z
        rw [hco'] at e
        cases e
      exact s12.imp _ _ hco' n1 LamX.codeO_ne
    have prom : spF X.K G' n id (.ref fa :: vs) H2 Q (L2.WE W σ) := by
      refine ⟨μ2, fun a => fr.M a ∨ a ∈ O, S2, .clo lid cs :: ds, RelS.regs hGG ⟨Step.refl _ _ _, fun a z => rel2.nl a (z.elim .inl fun z => .inr (.inl z)), rel2.st.weak fun b z => (nn_call b).mp z, rel2.tabs⟩,
        .cons (.cloG (k := kk) (show (if fa = fa then some kk else G.clo fa) = some kk from if_pos rfl) rfl (by show H2 c' = some (LamX.CodeO c' (G.lamT lid).qual); rw [hL]; exact hc2.1) (fun z => hc2.2 ((nn_call _).mp z)) ((qc.weak fun b z => (nn_call b).mp z).up hGG hcl)) ((r2.weak fun b z => (nn_call b).mp z).up hGG hcl), ?_⟩
      show EndC X.K G' ⟨H2, μ2, fun a => fr.M a ∨ a ∈ O⟩ (callF G.Φ G.Λ G.nm G.F n (.fn id) (.clo lid cs :: ds) S2) Q (L2.WE W σ)
      cases e : callF G.Φ G.Λ G.nm G.F n (.fn id) (.clo lid cs :: ds) S2 with
      | bad => rw [e] at h2; exact h2
      | exc cc S3 =>
        rw [e] at h2
        exact fun dd H' μ' xd rs => h2 dd H' μ' xd (rel2.next rs.step ((rs.st.regs hGG.symm).weak fun b z => (nn_call b).mpr z) rs.tabs).relS
      | ok d S3 =>
        rw [e] at h2
        have h2 : End X.K G W (Rp X.K G) fr μ2 O H2 σ ρ (if noClo d then .ok d S3 else .bad) Q := h2
        by_cases nc : noClo d = true
        · rw [if_pos nc] at h2
          exact fun v H' μ' rs rv => h2 v H' μ' rs.step (rel2.next rs.step ((rs.st.regs hGG.symm).weak fun b z => (nn_call b).mpr z) rs.tabs) ((rv.regs hGG.symm nc).weak fun b z => (nn_call b).mpr z)
        · rw [if_neg nc] at h2
          exact h2.elim
    exact run_fnS' (G := G') (E := L2.WE W) (F.mono hj) (hR G' rfl) B.room hb (L2N.passAt B.tk σ) I2 live2 (.cons (show L2.RelV (.ref fa) (.ref fa) from rfl) r) prom
end
end Iv
set_option maxHeartbeats 2000000
/-! Iv15: a lambda's body; calls by value. -/
namespace Iv
open PySem PySem.Spec PyProof.Rows L2
/-- a lambda's scope: parameters, captured names, globals -/
structure LamSc (N ps : List Str) (L : LamT) : Prop where
  kind : L.scope.kind = .function
  co : L.scope.isCoroutine = false
  gen : L.scope.isGenerator = false
  nd : N.Nodup
  pre : N.take (ps.length + L.caps.length) = ps ++ L.caps
  le : ps.length + L.caps.length ≤ N.length
  nocell : ∀ y ∈ L.scope.names, y.2 ≠ .cell
  par : ∀ x ∈ ps, L.scope.names.lookup x = some .local
  capfree : ∀ x ∈ L.caps, L.scope.names.lookup x = some .free
  freecap : ∀ y ∈ L.scope.names, y.2 = .free → y.1 ∈ L.caps
/-- the context of a lambda's body -/
def lamC (P : Program) (w : World) (K : PySem.W.Frag) (mg : Str → Option Value) (base : Heap) (N : List Str) (L : LamT) (a c' : Addr) (cl : List (Str × Addr)) (A : Around) (outer : List PySem.Env) (s : Shared) (H : Hp) (E : XK) : Cx where
  prog := P
  w := w
  K := K
  mg := mg
  base := base
  A := A.deeper (PySem.W.envX L.qual L.scope s.heap.objs.size a (.ref c') cl)
  N := N
  s_0 := s
  H_0 := H
  env := PySem.W.envX L.qual L.scope s.heap.objs.size a (.ref c') cl
  outer := outer
  stack := PySem.W.envX L.qual L.scope s.heap.objs.size a (.ref c') cl :: outer
  ex := []
  fn := fun _ => false
  calm := true
  pn := []
  xe := fun e s' => wpAny (model P w) (A.deeper (PySem.W.envX L.qual L.scope s.heap.objs.size a (.ref c') cl)) (leaving (PySem.W.envX L.qual L.scope s.heap.objs.size a (.ref c') cl) e) (fun _ s'' => L2N.CX P w outer H s E e s'') (fun e' s'' => L2N.CX P w outer H s E e' s'') s'
theorem zip_get {x : Str} {u : Value} : ∀ {ps : List Str} {us : List Value} {i : Nat}, ps.Nodup → ps[i]? = some x → us[i]? = some u → (ps.zip us).reverse.lookup x = some u := by
  intro ps us i nd h1 h2
  have hz : (ps.zip us)[i]? = some (x, u) := by
    rw [List.getElem?_zip_eq_some]
    exact ⟨h1, h2⟩
  have hm : (x, u) ∈ (ps.zip us).reverse := List.mem_reverse.mpr (List.mem_of_getElem? hz)
  obtain ⟨u', e⟩ := mem_lookup hm
  have hm' := List.mem_reverse.mp (PySem.mem_of_lookup e)
  obtain ⟨j, hj, ej⟩ := List.mem_iff_getElem.mp hm'
  have ej' : (ps.zip us)[j]? = some (x, u') := by rw [List.getElem?_eq_getElem hj, ej]
  rw [List.getElem?_zip_eq_some] at ej'
  have : i = j := (List.getElem?_inj (List.getElem?_eq_some_iff.mp h1).1 nd).mp (h1.trans ej'.1.symm)
  subst this
  rw [h2] at ej'
  rw [e]
  exact ej'.2.symm
section
variable {P : Program} {w : World} {K : PySem.W.Frag} {mg : Str → Option Value} {base : Heap}
/-- what a lambda's cells must be at its call -/
structure CellsAt (L : LamT) (cl : List (Str × Addr)) (cvs : List V) (outer : List PySem.Env) (s : Shared) (H : Hp) : Prop where
  len : L.caps.length = cvs.length
  at_ : ∀ (j : Nat) (x : Str) (v : V), L.caps[j]? = some x → cvs[j]? = some v → ∃ c u, cl.lookup x = some c ∧ s.heap.IsCell c (some u) ∧ RelV v u
  ok : ∀ x c, cl.lookup x = some c → x ∈ L.caps ∧ (∃ v, s.heap.IsCell c v) ∧ H c = none ∧ c ∉ frs outer
  inj : ∀ x y c, cl.lookup x = some c → cl.lookup y = some c → x = y
theorem lam_inv {N ps : List Str} {L : LamT} (S : LamSc N ps L) {a c' : Addr} {cl : List (Str × Addr)} {cvs vs : List V} {us : List Value} {A : Around} {outer : List PySem.Env} {s : Shared} {H : Hp} {E : XK} {h₁ : Heap} {tk : Nat} (ce : CellsAt L cl cvs outer s H) (e0 : Env0 P w K mg base A outer s H) (hd : A.handled = none)
    (hl : vs.length = ps.length) (rv : Vals vs us) (hns : h₁.Ns s.heap.objs.size fun y => (ps.zip us).reverse.lookup y) (kp : ∀ b o, s.heap.get? b = some o → h₁.get? b = some o) :
    Inv (lamC P w K mg base N L a c' cl A outer s H E) [] (L2.start N (vs ++ cvs)) H { s with heap := h₁, toks := tk } := by
  have noA : ∀ b : Addr, b ∉ (lamC P w K mg base N L a c' cl A outer s H E).ex := fun b z => absurd (show b ∈ ([] : List Addr) from z) (by simp)
  have hcl : ∀ x ∈ L.caps, ∃ c, cl.lookup x = some c := fun x hx => by
    obtain ⟨j, hj, e⟩ := List.mem_iff_getElem.mp hx
    have hj' : j < cvs.length := by rw [← ce.len]; exact hj
    obtain ⟨c, u, h1, _⟩ := ce.at_ j x cvs[j] (by rw [List.getElem?_eq_getElem hj, e]) (List.getElem?_eq_getElem hj')
    exact ⟨c, h1⟩
  refine ⟨⟨e0.mod, S.kind, rfl, rfl, Nat.le_refl _, fun y z c e1 e2 => ce.inj y z c e1 e2, fun y hy => ?_, fun y c z _ => ?_, fun _ => hd, Around.frames_deeper e0.frames, .inr ⟨rfl, rfl⟩, fun b z => absurd z (noA b), e0.bs, e0.bsz, fun b _ _ => noA b,
      fun b z => absurd z (noA b), e0.funs, e0.frf⟩,
    rfl, e0.bare, Un.kept kp, ⟨_, hns, fun i y v e1 e2 e3 => ?_⟩, fun y c e => ?_, e0.hok.fresh (Nat.le_refl _), fun y c e => (ce.ok y c e).2.2.1, fun q hq => absurd (show q ∈ ([] : List (Addr × Obj)) ++ [] from hq) (by simp), e0.hok.kept kp, ?_⟩
  · have hy : L.scope.names.lookup y = some .cell ∨ L.scope.names.lookup y = some .free := hy
    rcases hy with hy | hy
    · exact absurd rfl (S.nocell _ (PySem.mem_of_lookup hy))
    · exact hcl y (S.freecap _ (PySem.mem_of_lookup hy) rfl)
  · have z : false = true := z
    cases z
  · have hvl : (vs ++ cvs).length = ps.length + L.caps.length := by rw [List.length_append, hl, ce.len]
    have hi : i < (vs ++ cvs).length := by
      unfold L2.start at e2
      by_cases hi : i < (vs ++ cvs).length
      · exact hi
      · rw [List.getElem?_append_right (by simpa using hi), List.getElem?_replicate] at e2
        split at e2 <;> cases e2
    have e2' : (vs ++ cvs)[i]? = some v := by
      unfold L2.start at e2
      rw [List.getElem?_append_left (by simpa using hi), List.getElem?_map] at e2
      cases e : (vs ++ cvs)[i]? with
      | none => rw [e] at e2; cases e2
      | some a => rw [e] at e2; cases e2; rfl
    have e1' : (ps ++ L.caps)[i]? = some y := by
      rw [← S.pre, List.getElem?_take_of_lt (by rw [← hvl]; exact hi)]
      exact e1
    by_cases hp : i < ps.length
    · rw [List.getElem?_append_left hp] at e1'
      rw [List.getElem?_append_left (by rw [hl]; exact hp)] at e2'
      obtain ⟨u, hu, ru⟩ := rv.get e2'
      have nd : ps.Nodup := by
        have : (ps ++ L.caps).Nodup := by rw [← S.pre]; exact S.nd.sublist (List.take_sublist _ _)
        exact (List.nodup_append.mp this).1
      exact ⟨u, ru, .inl ⟨S.par y (List.mem_of_getElem? e1'), zip_get nd e1' hu⟩⟩
    · rw [List.getElem?_append_right (by omega)] at e1'
      rw [List.getElem?_append_right (by omega), hl] at e2'
      obtain ⟨c, u, h1, h2, h3⟩ := ce.at_ _ y v e1' e2'
      obtain ⟨o, ho, hdd⟩ := h2
      exact ⟨u, h3, .inr ⟨.inr (S.capfree y (List.mem_of_getElem? e1')), c, h1, o, kp _ _ ho, hdd⟩⟩
  · obtain ⟨v, o, ho, hdd⟩ := (ce.ok y c e).2.1
    exact ⟨v, o, kp _ _ ho, hdd⟩
  · unfold L2.start
    show _ = N.length
    have := S.le
    rw [List.length_append, List.length_map, List.length_replicate, List.length_append, hl]
    have := ce.len
    omega
/-- what is to be shown of a lambda's body -/
def LamB (P : Program) (w : World) (K : PySem.W.Frag) (mg : Str → Option Value) (base : Heap) (G0 : Gs) (N : List Str) (L : LamT) (li : LamI) (k n : Nat) : Prop :=
  ∀ (G : Gx), G.toGs = G0 → ∀ (a c' : Addr) (cl : List (Str × Addr)) (A : Around) (outer : List PySem.Env) (s : Shared) (H : Hp) (E : XK), Bx (lamC P w K mg base N L a c' cl A outer s H E) (fun cls d _ H => E cls d H) k →
    LiveX G (lamC P w K mg base N L a c' cl A outer s H E) → Cb (lamC P w K mg base N L a c' cl A outer s H E) → PE (lamC P w K mg base N L a c' cl A outer s H E) L.body (tE K G (fun cls d _ H => E cls d H) n li.body)
theorem lam_run {G : Gx} {N ps : List Str} {lid k n : Nat} {L : LamT} {li : LamI} (S : LamSc N ps L) (hΛ : G.Λ lid = some li) (hL : G.lamT lid = L) (hsl : li.slots = N.length) (hpa : li.pars = ps.length) (hca : li.caps = L.caps.length)
    (hbind : ∀ (cl : List (Str × Addr)) (pm cv ctv : Value) (us : List Value), us.length = ps.length → bindArgs (PySem.W.kla_fn "<lambda>" L.qual L.params L.body L.scope cl pm cv ctv) ⟨us, []⟩ = pure (ps.zip us))
    (body : ∀ m, m + 1 = n → LamB P w K mg base G.toGs N L li k m) {A : Around} {outer : List PySem.Env} {s : Shared} {H : Hp} {us : List Value} {vs cvs : List V} {ds cs : List D} {Q : VK} {E : XK} {a c' : Addr} {cl : List (Str × Addr)} {pm ctv : Value} {μ : List Addr} {M : Addr → Prop} {St : Store}
    (hr : Room (k + 1) A) (e0 : Env0 P w K mg base A outer s H) (live : LiveAt G outer s H) (ho : s.heap.get? a = some (PySem.W.kla_obj "<lambda>" L.qual L.params L.body L.scope cl pm c' ctv)) (hco : H c' = some (LamX.CodeO c' L.qual)) (ce : CellsAt L cl cvs outer s H) (rv : Vals vs us)
    (rs : RelS K G ⟨H, μ, M⟩ μ H St) (rd : Rps K G (NN M [] μ) μ H vs ds) (rc : Rps K G (NN M [] μ) μ H cvs cs) (h : EndC K G ⟨H, μ, M⟩ (callF G.Φ G.Λ G.nm G.F n (.clo lid cs) ds St) Q E) :
    codeAny (model P w) A (.call (.ref a) ⟨us, []⟩) (CR (L2N.CX P w) outer P w H s Q E) s := by
  cases n with
  | zero => exact h.elim
  | succ n =>
    unfold callF at h
    rw [hΛ] at h
    by_cases hlen : ds.length = li.pars ∧ cs.length = li.caps
    · simp only [if_pos hlen] at h
      have hvl : vs.length = ps.length := by rw [rd.length, hlen.1, hpa]
      have hul : us.length = ps.length := by rw [← rv.length, hvl]
      obtain ⟨⟨oc, ovs, t, hoc, hdc, hvc⟩, _, _⟩ := e0.hok c' _ hco
      have lim : s.heap.NoLimit := e0.mod.nolimit.keeps fun b o e => (e0.bs b o e).1
      refine PySem.W.kla_callFunE hr.depth ho rfl S.co S.gen rfl ⟨c', oc, ovs, t, rfl, hoc, hdc, hvc⟩ ?_
      rw [hbind _ _ _ _ _ hul]
      refine wpAny_pure (wpAny_newFunctionEnv S.nocell (fun y hy => S.par _ (List.of_mem_zip hy).1) (fun h₁ hns hsb => ⟨lim.fresh _ hsb, ?_⟩) S.kind)
      show codeAny _ _ (.expr L.body (PySem.W.envX L.qual L.scope s.heap.objs.size a (.ref c') cl)) _ _
      have kp : ∀ b o, s.heap.get? b = some o → h₁.get? b = some o := fun b o e => hsb.extBut b o (Nat.ne_of_lt (Heap.lt_size e)) (Heap.get?_push_of_some _ e)
      have J : Inv (lamC P w K mg base N L a c' cl A outer s H E) [] (L2.start N (vs ++ cvs)) H { s with heap := h₁, toks := s.toks + (ps.zip us).length } := lam_inv S ce e0 hr.hd hvl rv hns kp
      have B : Bx (lamC P w K mg base N L a c' cl A outer s H E) (fun cls d _ H => E cls d H) k := ⟨rfl, S.nd, L2N.takes_of rfl rfl rfl rfl, passes_of rfl, hr.deeper _⟩
      have lx : LiveX G (lamC P w K mg base N L a c' cl A outer s H E) := fun b kk e => by
        obtain ⟨h1, h2⟩ := live b kk e
        exact ⟨⟨h1.1, h1.2.1, h1.2.2, fun z => nomatch (show b ∈ ([] : List Addr) from z)⟩, fun p hp => ⟨(h2 p hp).1, (h2 p hp).2.1, (h2 p hp).2.2, fun z => nomatch (show p.1 ∈ ([] : List Addr) from z)⟩⟩
      have cb : Cb (lamC P w K mg base N L a c' cl A outer s H E) := fun y c e hm => by
        obtain ⟨_, ⟨v, o, hoo, _⟩, _, nf⟩ := ce.ok y c e
        rcases List.mem_cons.mp (show c ∈ frs (PySem.W.envX L.qual L.scope s.heap.objs.size a (.ref c') cl :: outer) from hm) with z | z
        · have z' : c = s.heap.objs.size := z
          have := Heap.lt_size hoo
          rw [z'] at this
          exact Nat.lt_irrefl _ this
        · exact nf z
      have hle : (ds ++ cs).length ≤ N.length := by
        have := S.le
        rw [List.length_append, hlen.1, hlen.2, hpa, hca]
        exact this
      have rel := Rel.begin (sl := li.slots) rs (rd.app rc) hsl hle
      have hEnd : End K G (fun cls d _ H => E cls d H) (Rp K G) ⟨H, μ, M⟩ μ [] H (L2.start N (vs ++ cvs)) (frameN li.slots (ds ++ cs)) (ev G n li.body (frameN li.slots (ds ++ cs)) St) Q := by
        cases e : ev G n li.body (frameN li.slots (ds ++ cs)) St with
        | bad => simp only [ev] at e; rw [e] at h; exact h.elim
        | exc cc S1 =>
          simp only [ev] at e
          rw [e] at h
          exact h
        | ok d S1 =>
          simp only [ev] at e
          rw [e] at h
          exact fun v H' μ' st rel' r => h v H' μ' rel'.relS r
      refine PySem.W.kla_codeExpr (wpAny_mono ((body n rfl G rfl a c' cl A outer s H E B lx cb).run [] _ _ H Q J ⟨⟨H, μ, M⟩, μ, [], _, St, rel, hEnd⟩) (fun v s' hq => ?_) fun e s' hq => hq)
      obtain ⟨w', H', J', rv', q⟩ := hq
      exact ⟨w', H', J'.os, J'.bare, J'.base, J'.hok, rv', q⟩
    · simp only [if_neg hlen] at h
      exact h.elim
end
end Iv
set_option maxHeartbeats 2000000
/-! Iv16: calls of what a name holds. -/
namespace Iv
open PySem PySem.Spec PyProof.Rows L2
/-- every lambda of the law is proved -/
def ValC (P : Program) (w : World) (K : PySem.W.Frag) (mg : Str → Option Value) (base : Heap) (G0 : Gs) (k n : Nat) : Prop := ∀ lid li, G0.Λ lid = some li → ∃ N ps, LamSc N ps (G0.lamT lid) ∧ li.slots = N.length ∧ li.pars = ps.length ∧ li.caps = (G0.lamT lid).caps.length ∧
  (∀ (cl : List (Str × Addr)) (pm cv ctv : Value) (us : List Value), us.length = ps.length → bindArgs (PySem.W.kla_fn "<lambda>" (G0.lamT lid).qual (G0.lamT lid).params (G0.lamT lid).body (G0.lamT lid).scope cl pm cv ctv) ⟨us, []⟩ = pure (ps.zip us)) ∧
  ∀ m, m + 1 = n → LamB P w K mg base G0 N (G0.lamT lid) li k m
/-- every def that is called by value is proved -/
def ValF (P : Program) (w : World) (K : PySem.W.Frag) (mg : Str → Option Value) (base : Heap) (G0 : Gs) (k n : Nat) : Prop := ∀ id v, G0.tab id = some v → ∃ f fd ps, v = .ref f ∧ PySem.W.keepIn K (.ref f) = true ∧ Binds K fd ps [] ∧ FnS P w K mg base G0 Emp k f fd ps n id
section
variable {X : Cx} {G : Gx} {W : WX} {n k j : Nat} {pins : List (Addr × Obj)} {σ : L2.St} {H : Hp} {s : Shared} {Q : VK}
theorem run_clo (B : Bx X W k) (live : LiveX G X) (VC : ValC X.prog X.w X.K X.mg X.base G.toGs j n) (hj : j + 1 ≤ k) (I : Inv X pins σ H s) {fr : Fr} {μ O : List Addr} {ρ : Env} {S : Store} {a : Addr} {lid : Nat} {cs ds : List D} {vs : List V} {us : List Value}
    (rel : Rel X.K G fr μ O H σ ρ S) (ra : Rp X.K G (NN fr.M O μ) μ H (.ref a) (.clo lid cs)) (rd : Rps X.K G (NN fr.M O μ) μ H vs ds) (rv : Vals vs us) (h : End X.K G W (Rp X.K G) fr μ O H σ ρ (callF G.Φ G.Λ G.nm G.F n (.clo lid cs) ds S) Q) :
    PySem.W.FnAt a s.heap ∧ wpAny (model X.prog X.w) X.A (call (.ref a) us) (EP X pins σ Q) X.xe s := by
  have hr := B.room.mono hj
  have rs : RelS X.K G ⟨H, μ, fun a => fr.M a ∨ a ∈ O⟩ μ H S := ⟨Step.refl _ _ _, fun a z => rel.nl a (z.elim .inl fun z => .inr (.inl z)), rel.st.weak fun b z => (nn_call b).mp z, rel.tabs⟩
  have hEnd : EndC X.K G ⟨H, μ, fun a => fr.M a ∨ a ∈ O⟩ (callF G.Φ G.Λ G.nm G.F n (.clo lid cs) ds S) Q (L2.WE W σ) := by
    cases e : callF G.Φ G.Λ G.nm G.F n (.clo lid cs) ds S with
    | bad => rw [e] at h; exact h
    | exc c S1 =>
      rw [e] at h
      exact fun dd H' μ' xd rs => h dd H' μ' xd (rel.next rs.step (rs.st.weak fun b z => (nn_call b).mpr z) rs.tabs).relS
    | ok d S1 =>
      rw [e] at h
      exact fun v H' μ' rs rv => h v H' μ' rs.step (rel.next rs.step (rs.st.weak fun b z => (nn_call b).mpr z) rs.tabs) (rv.weak fun b z => (nn_call b).mpr z)
  have fin : ∀ {cvs : List V} {c' : Addr} {cl : List (Str × Addr)} {pm ctv : Value}, s.heap.get? a = some (PySem.W.kla_obj "<lambda>" (G.lamT lid).qual (G.lamT lid).params (G.lamT lid).body (G.lamT lid).scope cl pm c' ctv) →
      H c' = some (LamX.CodeO c' (G.lamT lid).qual) → CellsAt (G.lamT lid) cl cvs X.stack s H → Rps X.K G (NN fr.M O μ) μ H cvs cs → PySem.W.FnAt a s.heap ∧ wpAny (model X.prog X.w) X.A (call (.ref a) us) (EP X pins σ Q) X.xe s := fun {cvs c' cl pm ctv} ho hc ce qc => by
    refine ⟨⟨_, _, _, _, ho⟩, ?_⟩
    cases eΛ : G.Λ lid with
    | none =>
      cases n with
      | zero => exact hEnd.elim
      | succ n => unfold callF at hEnd; rw [eΛ] at hEnd; exact hEnd.elim
    | some li =>
      obtain ⟨N, ps, S1, h1, h2, h3, h4, h5⟩ := VC lid li eΛ
      have run := lam_run (G := G) S1 eΛ rfl h1 h2 h3 h4 h5 hr I.env0 (live.at I) ho hc ce rv rs (rd.weak fun b z => (nn_call b).mp z) (qc.weak fun b z => (nn_call b).mp z) hEnd
      refine wpAny_call (codeAny_mono run fun r s' hq => ?_)
      cases r with
      | error e => exact L2N.passAt B.tk σ pins H s e s' I hq
      | ok fl =>
        cases fl with
        | ret u => exact I.after hq
        | next => exact False.elim hq
        | brk => exact False.elim hq
        | cont => exact False.elim hq
  cases ra with
  | cloT h1 h2 h3 h4 =>
    obtain ⟨⟨pm, ctv, ho⟩, _, _⟩ := I.hok a _ h1
    refine fin (cvs := []) ho h3 ⟨?_, fun j x v e1 e2 => by simp at e2, fun x c e => by simp at e, fun x y c e => by simp at e⟩ .nil
    cases eΛ : G.Λ lid with
    | none =>
      cases n with
      | zero => exact hEnd.elim
      | succ n => unfold callF at hEnd; rw [eΛ] at hEnd; exact hEnd.elim
    | some li =>
      obtain ⟨N, ps, S1, h1, h2, hca, h4, h5⟩ := VC lid li eΛ
      cases n with
      | zero => exact hEnd.elim
      | succ n =>
        unfold callF at hEnd
        rw [eΛ] at hEnd
        by_cases hlen : ds.length = li.pars ∧ ([] : List D).length = li.caps
        · rw [← hca, ← hlen.2]; rfl
        · simp only [if_neg hlen] at hEnd
          exact hEnd.elim
  | @cloG _ kk _ _ h1 h2 h3 h4 q =>
    subst h2
    obtain ⟨⟨pm, ctv, e⟩, hlen, hat, hinj, hall⟩ := G.cok a kk h1
    obtain ⟨lo, lc⟩ := live.at I a kk h1
    have cells : ∀ x c, kk.cl.lookup x = some c → x ∈ (G.lamT kk.id).caps ∧ (∃ v, s.heap.IsCell c v) ∧ H c = none ∧ c ∉ frs X.stack := fun x c ex => by
      have hx := hall x c ex
      obtain ⟨j, hj, ej⟩ := List.mem_iff_getElem.mp hx
      have hj' : j < kk.vs.length := by rw [← hlen]; exact hj
      obtain ⟨c0, oc, u, g1, g2, g3, g4⟩ := hat j x kk.vs[j] (by rw [List.getElem?_eq_getElem hj, ej]) (List.getElem?_eq_getElem hj')
      rw [ex] at g1
      cases g1
      have l := lc (c, oc) g2
      exact ⟨hx, ⟨_, oc, l.1, g3⟩, l.2.1, l.2.2⟩
    refine fin (cvs := kk.vs) (by rw [← e]; exact lo.1) h3 ⟨hlen, fun j x v e1 e2 => ?_, cells, hinj⟩ q
    obtain ⟨c0, oc, u, g1, g2, g3, g4⟩ := hat j x v e1 e2
    exact ⟨c0, u, g1, ⟨oc, (lc (c0, oc) g2).1, g3⟩, g4⟩
theorem clo_at (live : LiveX G X) (I : Inv X pins σ H s) {N : Addr → Prop} {μ : List Addr} {v : V} {lid : Nat} {cs : List D} (ra : Rp X.K G N μ H v (.clo lid cs)) : ∃ a, v = .ref a ∧ PySem.W.FnAt a s.heap := by
  cases ra with
  | cloT h1 h2 h3 h4 =>
    obtain ⟨⟨pm, ctv, ho⟩, _, _⟩ := I.hok _ _ h1
    exact ⟨_, rfl, _, _, _, _, ho⟩
  | @cloG _ kk _ _ h1 h2 h3 h4 q =>
    obtain ⟨⟨pm, ctv, e⟩, _⟩ := G.cok _ kk h1
    have lo := (live.at I _ kk h1).1
    rw [e] at lo
    exact ⟨_, rfl, _, _, _, _, lo.1⟩
theorem emp_eq (G : Gx) : G.toGs = (Gx.emp G.toGs).toGs := rfl
theorem run_val (B : Bx X W k) (VF : ValF X.prog X.w X.K X.mg X.base G.toGs j n) (hj : j ≤ k) (I : Inv X pins σ H s) {fr : Fr} {μ O : List Addr} {ρ : Env} {S : Store} {id : Nat} {ds : List D} {v : V} {vs : List V} {us : List Value}
    (rel : Rel X.K G fr μ O H σ ρ S) (ht : G.tab id = some v) (rd : Rps X.K G (NN fr.M O μ) μ H vs ds) (nc : noClos ds = true) (rv : Vals vs us) (h : End X.K G W (Rp X.K G) fr μ O H σ ρ (callF G.Φ G.Λ G.nm G.F n (.fn id) ds S) Q) :
    ∃ f, v = .ref f ∧ PySem.W.keepIn X.K (.ref f) = true ∧ wpAny (model X.prog X.w) X.A (call (.ref f) us) (EP X pins σ Q) X.xe s := by
  obtain ⟨f, fd, ps, ev, hk, hb, F⟩ := VF id v ht
  refine ⟨f, ev, hk, ?_⟩
  have prom : spF X.K (Gx.emp G.toGs) n id vs H Q (L2.WE W σ) := by
    obtain ⟨μ', M', S', ds', rs, rp, hE⟩ := call_end rel rd h
    refine ⟨μ, fun a => fr.M a ∨ a ∈ O, S, ds, RelS.regs (emp_eq G) ⟨Step.refl _ _ _, fun a z => rel.nl a (z.elim .inl fun z => .inr (.inl z)), rel.st.weak fun b z => (nn_call b).mp z, rel.tabs⟩, (rd.weak fun b z => (nn_call b).mp z).regs (emp_eq G) nc, ?_⟩
    show EndC X.K (Gx.emp G.toGs) ⟨H, μ, fun a => fr.M a ∨ a ∈ O⟩ (callF G.Φ G.Λ G.nm G.F n (.fn id) ds S) Q (L2.WE W σ)
    cases e : callF G.Φ G.Λ G.nm G.F n (.fn id) ds S with
    | bad => rw [e] at h; exact h
    | exc c S1 =>
      rw [e] at h
      exact fun dd H' μ' xd rs => h dd H' μ' xd (rel.next rs.step ((rs.st.regs (emp_eq G).symm).weak fun b z => (nn_call b).mpr z) rs.tabs).relS
    | ok d S1 =>
      rw [e] at h
      exact fun v H' μ' rs rv => h v H' μ' rs.step (rel.next rs.step ((rs.st.regs (emp_eq G).symm).weak fun b z => (nn_call b).mpr z) rs.tabs) ((rv.up (emp_eq G).symm (fun a k e => nomatch e)).weak fun b z => (nn_call b).mpr z)
  exact run_fnS' (G := Gx.emp G.toGs) (E := L2.WE W) (F.mono hj) rfl B.room hb (L2N.passAt B.tk σ) I (Emp.at (show Emp (Gx.emp G.toGs) from rfl)) rv prom
theorem e_callv {i : Nat} {x : Str} {p pos : Pos} {e : Expr} {es : List Expr} {ies : Exs} (B : Bx X W k) (live : LiveX G X) (VC : ValC X.prog X.w X.K X.mg X.base G.toGs j n) (VF : ValF X.prog X.w X.K X.mg X.base G.toGs j n) (hj : j + 1 ≤ k) (hN : X.N[i]? = some x) (hv : Vis X.env.scope x)
    (ha : PA X (e :: es) (tA X.K G W n ies)) (hd : (x == ("__debug__" : Str)) = false := by decide) (hcd : (x == ("__classdict__" : Str)) = false := by decide) (he : starEach (e :: es) X.env = (false, eval e X.env) :: starEach es X.env := by rfl) (hpl : (backTo pos (starEach es X.env)).any (·.1) = false := by rfl) :
    PE X (.Call (.Name x p) (e :: es) [] pos) (tE X.K G W n (.callv i ies)) := by
  refine ⟨fun pins s σ H Q I ⟨fr, μ, O, ρ, S, rel, h⟩ => ?_⟩
  have h : End X.K G W (Rp X.K G) fr μ O H σ ρ (match slotD ρ i with
    | some f => if isFn f then (evs G n ies ρ S).bind fun ds S1 => if noClos ds then callF G.Φ G.Λ G.nm G.F n f ds S1 else .bad else .bad
    | none => .bad) Q := h
  cases ed : slotD ρ i with
  | none => rw [ed] at h; exact h.elim
  | some d =>
    rw [ed] at h
    obtain ⟨v, ev, rv⟩ := rel.env i _ (slot_val ed)
    refine wpAny_Call_Name_kw (thn ((pe_var (pos := p) hN hv hd hcd).run pins s σ H (fun y H1 => y = v ∧ H1 = H) I ⟨v, ev, rfl, rfl⟩) fun u s1 ⟨y, H1, I1, r1, e1, e2⟩ => ?_)
    subst e1; subst e2
    cases d <;> try exact h.elim
    case fn id =>
      have h : End X.K G W (Rp X.K G) fr μ O H1 σ ρ ((evs G n ies ρ S).bind fun ds S1 => if noClos ds then callF G.Φ G.Λ G.nm G.F n (.fn id) ds S1 else .bad) Q := h
      cases rv with
      | fn ht =>
        obtain ⟨f, fd, ps, e1, hk, _⟩ := VF id _ ht
        subst e1
        obtain rfl : u = Value.ref f := r1
        refine PySem.W.callWith_K (h₀ := X.base) I1.ok.mod.kin hk (thn (ha.run pos pins s1 σ H1 _ I1 ⟨fr, μ, O, ρ, S, rel, (End.bind (RR := Rps X.K G) h)⟩) fun us s2 ⟨vs, H2, I2, r, ds, S1, μ1, st, rel1, rd, h1⟩ => ⟨I2.kIn, ?_⟩) he hpl
        by_cases nc : noClos ds = true
        · rw [if_pos nc] at h1
          obtain ⟨f', e1, e2, e3⟩ := run_val (j := j) B VF (Nat.le_of_succ_le hj) I2 rel1 ht rd nc r h1
          cases e1
          exact e3
        · rw [if_neg nc] at h1
          exact h1.elim
    case clo lid cs =>
      have h : End X.K G W (Rp X.K G) fr μ O H1 σ ρ ((evs G n ies ρ S).bind fun ds S1 => if noClos ds then callF G.Φ G.Λ G.nm G.F n (.clo lid cs) ds S1 else .bad) Q := h
      obtain ⟨a, rfl, fa⟩ := clo_at live I1 rv
      obtain rfl : u = Value.ref a := r1
      refine PySem.W.callWith_F fa (thn (ha.run pos pins s1 σ H1 _ I1 ⟨fr, μ, O, ρ, S, rel, (End.bind (RR := Rps X.K G) h)⟩) fun us s2 ⟨vs, H2, I2, r, ds, S1, μ1, st, rel1, rd, h1⟩ => ?_) he hpl
      by_cases nc : noClos ds = true
      · rw [if_pos nc] at h1
        exact run_clo (j := j) B live VC hj I2 rel1 (rv.step st) rd r h1
      · rw [if_neg nc] at h1
        exact h1.elim
/-- without arguments -/
theorem e_callv0 {i : Nat} {x : Str} {p pos : Pos} (B : Bx X W k) (live : LiveX G X) (VC : ValC X.prog X.w X.K X.mg X.base G.toGs j n) (hj : j + 1 ≤ k) (hN : X.N[i]? = some x) (hv : Vis X.env.scope x)
    (hd : (x == ("__debug__" : Str)) = false := by decide) (hcd : (x == ("__classdict__" : Str)) = false := by decide)
    (VF : ValF X.prog X.w X.K X.mg X.base G.toGs j n) :
    PE X (.Call (.Name x p) [] [] pos) (tE X.K G W n (.callv i .nil)) := by
  refine ⟨fun pins s σ H Q I ⟨fr, μ, O, ρ, S, rel, h⟩ => ?_⟩
  have h : End X.K G W (Rp X.K G) fr μ O H σ ρ (match slotD ρ i with
    | some f => if isFn f then (if noClos [] then callF G.Φ G.Λ G.nm G.F n f [] S else .bad) else .bad
    | none => .bad) Q := h
  cases ed : slotD ρ i with
  | none => rw [ed] at h; exact h.elim
  | some d =>
    rw [ed] at h
    obtain ⟨v, ev, rv⟩ := rel.env i _ (slot_val ed)
    refine wpAny_Call_Name_kw (thn ((pe_var (pos := p) hN hv hd hcd).run pins s σ H (fun y H1 => y = v ∧ H1 = H) I ⟨v, ev, rfl, rfl⟩) fun u s1 ⟨y, H1, I1, r1, e1, e2⟩ => ?_)
    subst e1; subst e2
    cases d <;> try exact h.elim
    case fn id =>
      have h : End X.K G W (Rp X.K G) fr μ O H1 σ ρ (callF G.Φ G.Λ G.nm G.F n (.fn id) [] S) Q := h
      cases rv with
      | fn ht =>
        obtain ⟨f, e1, hk, e3⟩ := run_val (j := j) B VF (Nat.le_of_succ_le hj) I1 rel ht .nil rfl .nil h
        subst e1
        obtain rfl : u = Value.ref f := r1
        exact PySem.W.callWith_K0 I1.kIn hk e3
    case clo lid cs =>
      have h : End X.K G W (Rp X.K G) fr μ O H1 σ ρ (callF G.Φ G.Λ G.nm G.F n (.clo lid cs) [] S) Q := h
      obtain ⟨a, rfl, fa⟩ := clo_at live I1 rv
      obtain rfl : u = Value.ref a := r1
      exact PySem.W.callWith_F0 fa (run_clo (j := j) B live VC hj I1 rel rv .nil .nil h).2
end
end Iv
set_option maxHeartbeats 2000000
/-! Iv17: try .. except X as e: return names(e). -/
namespace Iv
open PySem PySem.Spec PyProof.Rows L2 L2H HotX
/-- a def called within a suite, told of the pinned exception -/
theorem fn_ofHp {CX : CXT} {P : Program} {w : World} {K : PySem.W.Frag} {mg : Str → Option Value} {base : Heap} {k : Nat} {f : Addr} {name qual : Str} {params : Arguments} {body : List Stmt} {scope : Scope} {dV kV doc pm cdv ct oc : Value} {an od : Option Addr}
    {osl : Array (Option Value)} {N ps : List Str} (lk : K.lookup f = some ⟨oc, od, .func (PySem.W.fnOf name qual params body scope dV kV doc pm an cdv ct), osl⟩) (hcd : PySem.W.codeIn K cdv qual = true) (S : FnScope N ps scope)
    {A : Around} {outer : List PySem.Env} {s : Shared} {H : Hp} {args : Args} {us : List Value} {vs : List V} {Q : VK} {E : XK} {p : Addr × Obj} (hr : RoomH (k + 1) A) (hpin : PinOk outer H s p) (e0 : Env0 P w K mg base A outer s H) (hb : BindsTo s (PySem.W.fnOf name qual params body scope dV kV doc pm an cdv ct) args (ps.zip us))
    (r : Vals vs us) (hl : vs.length = ps.length)
    (hbody : RoomH k (A.deeper (envOfC qual scope s.heap.objs.size f cdv)) → ∃ t, PSs (cxH CX P w K mg base N qual scope f cdv A outer s H E p) body t ∧ t { nx := fun _ H' => Q .non H', rt := Q } (L2.start N vs) H) :
    codeAny (model P w) A (.call (.ref f) args) (CR CX outer P w H s Q E) s := by
  have KX : K.In s.heap := e0.mod.kin.keeps fun b o e => (e0.bs b o e).1
  have lim : s.heap.NoLimit := e0.mod.nolimit.keeps fun b o e => (e0.bs b o e).1
  have hkind : ∀ y ∈ ps.zip us, scope.names.lookup y.1 = some .local ∨ (scope.names.lookup y.1 = some .cell ∧ ((cellsFrom (s.heap.objs.size + 1) scope.names []).lookup y.1).isSome = true) := fun ⟨n, v⟩ hy => by
    rcases S.par n (List.of_mem_zip hy).1 with q | q
    · exact .inl q
    · exact .inr ⟨q, PySem.W.cellsFrom_some _ _ _ (.inl q)⟩
  refine codeAny_call_function hr.depth (KX _ _ lk) rfl S.co S.gen rfl (PySem.W.codeRec_of KX hcd) (hb _ _ _ _ ?_)
  refine wpAny_newFunctionEnv_cells S.kind hkind fun env he s1 x => ?_
  subst he
  refine ⟨lim.keeps x.toInCall.keep, codeAny_func ?_⟩
  obtain ⟨t, ht, hq⟩ := hbody (hr.deeper _)
  have I : Inv (cxH CX P w K mg base N qual scope f cdv A outer s H E p) [] (L2.start N vs) H s1 := inv_startH S hpin e0 hl r x
  refine wpAny_mono (ht.run [] s1 (L2.start N vs) H _ I hq) (fun fl s' hs => ?_) fun e s' hs => hs
  have fin : ∀ {σ' : L2.St} {H' : Hp} {v : V} {u : Value}, Inv (cxH CX P w K mg base N qual scope f cdv A outer s H E p) [] σ' H' s' → L2.RelV v u → Q v H' → CE outer P w H s Q u s' :=
    fun {σ' H' v u} J rv q => ⟨v, H', J.os, J.bare, J.base, J.hok, rv, q⟩
  cases fl with
  | ret u =>
    obtain ⟨v, σ', H', J, rv, q⟩ := hs
    exact fin J rv q
  | next =>
    obtain ⟨σ', H', J, q⟩ := hs
    exact fin (v := V.non) (u := Value.none) J rfl q
  | brk =>
    obtain ⟨_, _, _, q⟩ := hs
    exact False.elim q
  | cont =>
    obtain ⟨_, _, _, q⟩ := hs
    exact False.elim q
/-- what _law_names promises of a caught error -/
def NamesOk (P : Program) (w : World) (K : PySem.W.Frag) (mg : Str → Option Value) (base : Heap) (G0 : Gs) (k : Nat) (f : Addr) (fd : FuncData) : Prop :=
  ∀ (A : Around) (outer : List PySem.Env) (s : Shared) (H : Hp) (us : List Value) (Q : VK) (E : XK) (p : Addr × Obj) (c : Nat) (d : Option Addr), RoomH k A → Hot1 A p → PinOk outer H s p → Env0 P w K mg base A outer s H → BindsTo s fd ⟨us, []⟩ ([("e" : Str)].zip us) → Vals [.ref p.1] us →
    Zc (.ref (G0.cls c)) d p.2 → (∃ vs, p.2.data = .fields vs) → (some c ≠ G0.many → d = none) → (∀ H', Same H H' → Q (.str (G0.nm c)) H') → codeAny (model P w) A (.call (.ref f) ⟨us, []⟩) (CR (L2N.CX P w) outer P w H s Q E) s
section
variable {X : Cx} {G : Gx} {W : WX} {n k j i : Nat} {pos : Pos}
/-- names(e), within the suite that caught it -/
theorem pe_names {a f : Addr} {oe : Obj} {pn : List (Addr × Obj)} {fd : FuncData} {x y : Str} {c : Nat} {d : Option Addr} {p1 p2 : Pos} (NO : NamesOk X.prog X.w X.K X.mg X.base G.toGs j f fd) (hr : Room j X.A) (hz : L2N.Zn (.ref (G.cls c)) d oe) (hf : ∃ vs, oe.data = .fields vs) (xd : XD G c d)
    (hg : Gl X x) (hm : X.mg x = some (.ref f)) (hk : PySem.W.keepIn X.K (.ref f) = true) (hb : Binds X.K fd [("e" : Str)] []) (hN : X.N[i]? = some y) (hv : Vis X.env.scope y) (hdb : (x == ("__debug__" : Str)) = false := by decide) (hd : (y == ("__debug__" : Str)) = false := by decide) (hcd : (y == ("__classdict__" : Str)) = false := by decide)
    (he : starEach [.Name y p1] X.env = (false, eval (.Name y p1) X.env) :: starEach [] X.env := by rfl) (hpl : (backTo pos (starEach [] X.env)).any (·.1) = false := by rfl) :
    PE (X.suite a ((a, oe) :: pn)) (.Call (.Name x p2) [.Name y p1] [] pos) (fun σ H Q => (i < σ.length → σ[i]? = some (some (.ref a))) ∧ ∀ H', Same H H' → Q (.str (G.nm c)) H') := by
  refine ⟨fun pins s σ H Q I ⟨h1, h2⟩ => ?_⟩
  have hs : σ[i]? = some (some (.ref a)) := h1 (by rw [I.len]; exact (List.getElem?_eq_some_iff.mp hN).1)
  refine wpAny_Call_Name_kw (ld_glob (X := X.suite a ((a, oe) :: pn)) I hg hm ?_ hdb)
  have pa : PA (X.suite a ((a, oe) :: pn)) [.Name y p1] (tCons (tVar i) tNil) := pa_cons (pe_var hN hv hd hcd) pa_nil he
  refine PySem.W.callWith_K (h₀ := X.base) I.ok.mod.kin hk (thn (pa.run pos pins s σ H (fun vs H1 => vs = [V.ref a] ∧ H1 = H) I ⟨.ref a, hs, rfl, rfl⟩) fun us s1 ⟨vs, H1, I1, r, e1, e2⟩ => ⟨I1.kIn, ?_⟩) he hpl
  subst e1; subst e2
  obtain ⟨vs0, hd0⟩ := hf
  have P1 := I1.pin (a, oe) (List.mem_append_left _ List.mem_cons_self)
  have hpin : PinOk X.stack H1 s1 (a, oe) := ⟨P1.1, P1.2.1, fun hm => (List.mem_cons.mp (I1.stkSub a hm)).elim P1.2.2.1 P1.2.2.2.1, P1.2.2.2.2⟩
  have hl : us.length = 1 := r.length.symm
  have b := hb s1 us I1.kIn (by rw [List.append_nil]; exact hl)
  rw [List.append_nil] at b
  refine wpAny_call (codeAny_mono (NO (X.A.mark (some (.ref a))) X.stack s1 H1 us Q (fun _ _ _ => False) (a, oe) c d ⟨hr.dp, hr.un⟩ ⟨rfl, vs0, hd0, hz.2.2 vs0 hd0⟩ hpin I1.env0 b r hz.zc ⟨vs0, hd0⟩ xd h2) fun r s' hq => ?_)
  cases r with
  | error e =>
    obtain ⟨_, _, _, _, _, _, _, _, _, _, _, _, z⟩ := hq
    exact z.elim
  | ok fl =>
    cases fl with
    | ret u => exact I1.after hq
    | next => exact False.elim hq
    | brk => exact False.elim hq
    | cont => exact False.elim hq
theorem tryE_eq {told : Bool} {is : Sx} {ρ : Env} {S : Store} : evs1 G n (.tryE told is) ρ S = match evs1 G n is ρ S with | .exc c S1 => .ok (.ret (if told then .tup [.non, .str (G.nm c)] else .str (G.nm c))) S1 | r => r := rfl
theorem RelS.rel {K : PySem.W.Frag} {fr : Fr} {μ : List Addr} {H : Hp} {S : Store} (r : RelS K G fr μ H S) : Rel K G fr μ [] H [] [] S := ⟨r.step, r.mtr, by simp, r.st, r.tabs, rfl, fun i s e => by simp at e, fun i j a ds es e => by simp at e⟩
/-- what the suite does: the words of the error, alone or behind a None -/
def tSu (G : Gx) (i : Nat) (told : Bool) (c : Nat) (a : Addr) : TS := fun D σ H => (i < σ.length → σ[i]? = some (some (.ref a))) ∧
  (if told then ∀ H' p, Same H H' → H' p = none → D.rt (.ref p) (upd H' p (.tup [.non, .str (G.nm c)])) else ∀ H', Same H H' → D.rt (.str (G.nm c)) H')
theorem su_plain {a : Addr} {pn : List (Addr × Obj)} {oe : Obj} {e : Expr} {c : Nat} (h : PE (X.suite a ((a, oe) :: pn)) e (fun σ H Q => (i < σ.length → σ[i]? = some (some (.ref a))) ∧ ∀ H', Same H H' → Q (.str (G.nm c)) H')) :
    PSs (X.suite a ((a, oe) :: pn)) [.Return (some e) pos] (tSu G i false c a) := (pss_one (ps_ret h)).imp fun D σ H ⟨h1, h2⟩ => ⟨h1, h2⟩
theorem su_told {a : Addr} {pn : List (Addr × Obj)} {oe : Obj} {e : Expr} {c : Nat} {k1 k2 : Nat} {p1 p2 : Pos} (h : PE (X.suite a ((a, oe) :: pn)) e (fun σ H Q => (i < σ.length → σ[i]? = some (some (.ref a))) ∧ ∀ H', Same H H' → Q (.str (G.nm c)) H'))
    (hs : starEach [.Constant .none k1 p1, e] X.env = (false, eval (.Constant .none k1 p1) X.env) :: starEach [e] X.env := by rfl) (hs2 : starEach [e] X.env = (false, eval e X.env) :: starEach [] X.env := by rfl) :
    PSs (X.suite a ((a, oe) :: pn)) [.Return (some (.Tuple [.Constant .none k1 p1, e] k2 p2)) pos] (tSu G i true c a) := (pss_one (ps_ret (pe_tup (pa_cons pe_non (pa_cons h pa_nil hs2) hs)))).imp fun D σ H ⟨h1, h2⟩ => ⟨h1, fun H' sm => ⟨by show 2 ≤ sizeLine; decide, fun p hp => h2 H' p sm hp⟩⟩
theorem s_tryE {told : Bool} {is : Sx} {st : Stmt} {x y : Str} {b₀ : Stmt} {suite : List Stmt} {np pos' : Pos} {cv : Value} (B : Bx X W k) (live : LiveX G X) (hs : X.stack = X.env :: X.outer) (hfr : X.env.frame = some X.env.locals) (hi : X.N[i]? = some y) (hln : X.env.kindOf y = some .local) (hc : L2.Names X x cv)
    (hex : ∀ c, PySem.W.exmOne X.K (.ref (G.cls c)) cv = some true)
    (hb : ∀ (W' : WX) (pn : List (Addr × Obj)) (xe : Value → Shared → Prop), Bx (X.tr pn xe) W' k → LiveX G (X.tr pn xe) → PS (X.tr pn xe) st (tS X.K G W' n is))
    (hsu : ∀ (c : Nat) (a : Addr) (oe : Obj) (d : Option Addr) (pn : List (Addr × Obj)), L2N.Zn (.ref (G.cls c)) d oe → (∃ vs, oe.data = .fields vs) → XD G c d → PSs (X.suite a ((a, oe) :: pn)) (b₀ :: suite) (tSu G i told c a)) :
    PS X (.Try [st] [.ExceptHandler (some (.Name x np)) (some y) (b₀ :: suite) pos'] [] [] pos) (tS X.K G W n (.tryE told is)) := by
  have lx : ∀ (pn : List (Addr × Obj)) (xe : Value → Shared → Prop), LiveX G (X.tr pn xe) := fun pn xe a kk e =>
    ⟨⟨(live a kk e).1.get, (live a kk e).1.free, (live a kk e).1.nofs, (live a kk e).1.noex⟩, fun p hp => ⟨((live a kk e).2 p hp).get, ((live a kk e).2 p hp).free, ((live a kk e).2 p hp).nofs, ((live a kk e).2 p hp).noex⟩⟩
  refine (L2N.ps_try_as (i := i) (tb := fun W' => tS X.K G W' n is) (ts := fun a cls d D σ H => ∃ c, cls = .ref (G.cls c) ∧ XD G c d ∧ tSu G i told c a D σ H) hs hfr B.nd hi hln hc B.tk
    (fun W' pn xe tk ps => pss_one (hb W' pn xe ⟨B.calm, B.nd, tk, ps, B.room⟩ (lx pn xe)))
    (fun a oe cls d pn hz hf => ⟨fun pins s σ H D I ⟨c, e, xd, h⟩ => by subst e; exact (hsu c a oe d pn hz hf xd).run pins s σ H D I h⟩)).imp fun D σ H ⟨fr, μ, O, ρ, S, rel, h⟩ => ⟨fr, μ, O, ρ, S, rel, ?_⟩
  rw [tryE_eq] at h
  cases e : evs1 G n is ρ S with
  | bad => rw [e] at h; exact h
  | ok o S1 => rw [e] at h; cases o <;> exact h
  | exc c S1 =>
    rw [e] at h
    have h : ∀ v H' μ', RelS X.K G fr μ' H' S1 → Rp X.K G (NN fr.M [] μ') μ' H' v (if told then .tup [.non, .str (G.nm c)] else .str (G.nm c)) → D.rt v H' := h
    refine fun σ' dd H' μ' xd rs => ⟨true, hex c, fun _ a ha => ⟨c, rfl, xd, fun hl => ?_, ?_⟩, fun z => nomatch z⟩
    · rw [List.length_set] at hl
      rw [List.getElem?_set_self hl]
    · cases told with
      | true =>
        exact fun H2 p sm hp => h _ _ μ' ((rs.rel.same sm).same (same_upd hp)).relS (Rp.newT (rs.rel.same sm).nt hp (.cons .non (.cons (.str _) .nil)))
      | false => exact fun H2 sm => h _ _ μ' (rs.rel.same sm).relS (.str _)
end
end Iv
set_option maxHeartbeats 2000000
/-! Iv18: _law_names: which classes a caught error is of, as words. -/
namespace Iv
open PySem PySem.Spec PyProof.Rows L2 L2H HotX
/-- isinstance of a pinned exception -/
theorem call_isP {X : Cx} {a D : Addr} {oe : Obj} (C : ExcC X.K D) (hp : (a, oe) ∈ X.pn) (hz : Zc (.ref D) none oe) (hf : ∃ vs, oe.data = .fields vs) : CallR X (.builtin "isinstance") (rIsE X.K D a) := by
  intro pins s σ H xs us Q I r h
  obtain ⟨c, cv, b, rfl, hcv, e, q⟩ := h
  cases r with
  | cons rx rr =>
    cases rr with
    | cons rt rr =>
      cases rr
      cases rx
      have ec := hcv _ rt
      subst ec
      obtain ⟨hget, _⟩ := I.pin (a, oe) (List.mem_append.mpr (.inl hp))
      obtain ⟨vs, hv⟩ := hf
      have J : PySem.W.InstAt s.heap a oe D none := by
        obtain ⟨oc, od, oda, osl⟩ := oe
        obtain ⟨h1, h2⟩ := hz
        dsimp only at h1 h2 hv
        subst h1 h2 hv
        exact ⟨hget, rfl, rfl, trivial⟩
      exact PySem.W.kia_one (PySem.W.handS_kitx_exc C.hg C.hk C.hs C.hd C.ha C.hn C.ht C.hm) I.kIn J e (fun z => nomatch z) fun tk => ⟨.bl b, H, I.kept (t' := tk) fun _ _ z => z, rfl, q⟩
/-- which of the classes it is of -/
def kits (K : PySem.W.Frag) (D : Addr) : List Value → Option (List Bool)
  | [] => some []
  | c :: cs => match PySem.W.kitOne K (.ref D) c with
    | some b => match kits K D cs with
      | some bs => some (b :: bs)
      | none => none
    | none => none
def tIsas (K : PySem.W.Frag) (D a : Addr) (cs : List Value) : TA := fun σ H Q => σ[0]? = some (some (.ref a)) ∧ ∃ bs, kits K D cs = some bs ∧ Q (bs.map V.bl) H
section
variable {X : Cx} {a D : Addr} {oe : Obj} {p1 p2 p3 pos : Pos}
theorem a_isa_nil : PA X [] (tIsas X.K D a []) := pa_nil.imp fun σ H Q ⟨_, bs, e, h⟩ => by cases e; exact h
theorem a_isa_cons {cs : List Value} {es : List Expr} {y : Str} {cV : V} {cv : Value} (C : ExcC X.K D) (hp : (a, oe) ∈ X.pn) (hz : Zc (.ref D) none oe) (hf : ∃ vs, oe.data = .fields vs) (hN : X.N[0]? = some ("e" : Str)) (hv : Vis X.env.scope "e") (hg : Gl X "isinstance") (hm : X.mg "isinstance" = none)
    (hc : PE X (.Name y p3) (tC cV)) (hcv : ∀ u, RelV cV u → u = cv) (hr : PA X es (tIsas X.K D a cs))
    (h1 : starEach [.Name "e" p2, .Name y p3] X.env = (false, eval (.Name "e" p2) X.env) :: starEach [.Name y p3] X.env := by rfl) (h2 : starEach [.Name y p3] X.env = (false, eval (.Name y p3) X.env) :: starEach [] X.env := by rfl) (h3 : (backTo pos (starEach [.Name y p3] X.env)).any (·.1) = false := by rfl)
    (h4 : starEach (.Call (.Name "isinstance" p1) [.Name "e" p2, .Name y p3] [] pos :: es) X.env = (false, eval (.Call (.Name "isinstance" p1) [.Name "e" p2, .Name y p3] [] pos) X.env) :: starEach es X.env := by rfl) :
    PA X (.Call (.Name "isinstance" p1) [.Name "e" p2, .Name y p3] [] pos :: es) (tIsas X.K D a (cv :: cs)) := by
  have one := pe_callB (x := "isinstance") (p := p1) (pos := pos) (call_isP C hp hz hf) hg hm (by decide +kernel) (pa_cons (pe_var (pos := p2) hN hv) (pa_cons hc pa_nil h2) h1) (by decide) (by decide) h1 h3
  refine (pa_cons one hr h4).imp fun σ H Q ⟨h0, bs, e, h⟩ => ?_
  unfold kits at e
  cases e1 : PySem.W.kitOne X.K (.ref D) cv with
  | none => rw [e1] at e; cases e
  | some b =>
    rw [e1] at e
    cases e2 : kits X.K D cs with
    | none => rw [e2] at e; cases e
    | some bs' =>
      rw [e2] at e
      cases e
      exact ⟨_, h0, cV, cv, b, rfl, hcv, e1, h0, bs', e2, h⟩
end
def pick : List Str → List Bool → List Str
  | x :: xs, b :: bs => if b then x :: pick xs bs else pick xs bs
  | _, _ => []
theorem pick_take : ∀ {xs : List Str} {bs : List Bool} {i : Nat} {x : Str} {b : Bool}, xs[i]? = some x → bs[i]? = some b → pick (xs.take (i + 1)) (bs.take (i + 1)) = pick (xs.take i) (bs.take i) ++ (if b then [x] else [])
  | y :: ys, c :: cs, 0, x, b, h1, h2 => by
    simp at h1 h2
    subst h1; subst h2
    cases c <;> simp [pick]
  | y :: ys, c :: cs, i + 1, x, b, h1, h2 => by
    have ih := pick_take (xs := ys) (bs := cs) (i := i) (by simpa using h1) (by simpa using h2)
    cases c <;> simp [pick, List.take_succ_cons, ih]
  | [], _, i, x, b, h1, _ => by simp at h1
  | _ :: _, [], i, x, b, _, h2 => by simp at h2
def tWords (K : PySem.W.Frag) (D a : Addr) (cs : List Value) (s1 s2 sep : Str) : TS :=
  tSeq (tAsg (tLst (tIsas K D a cs)) (gName 1)) (tSeq (tAsg (tC (.str s1)) (gName 2)) (tSeq (tAsg (tOp (fun x y H Q => ∃ i j, x = .str i ∧ y = .str j ∧ i.length + j.length ≤ sizeLine ∧ Q (.str (i ++ j)) H) (tVar 2) (tC (.str s2))) (gName 2))
    (tRet (tM1 (fun x xs H Q => ∃ a p, ∃ ys : List Str, x = .str a ∧ xs = [.ref p] ∧ (SqL K H p (ys.map V.str) ∨ SqT K H p (ys.map V.str)) ∧ (ys.map (·.length)).sum + ys.length * a.length ≤ 16777216 ∧ Q (.str (Txt.join a ys)) H) (tC (.str sep))
      (tLc (iZipH K (tCons (tM1 (fun x xs H Q => ∃ a b, x = .str a ∧ xs = [.str b] ∧ (b.length == 0) = false ∧ a.length + 2 ≤ sizeLine ∧ rNewStrs (Txt.split a b) H Q) (tVar 2) (tC (.str sep))) (tCons (tVar 1) tNil)))
        (gTup K 2 (gCons (gName 3) (gCons (gName 4) gNil))) (fun σ H Q => tVar 4 σ H fun x H' => ∃ k, TruV K x H' k ∧ Q k H') (tVar 3) [3, 4])))))
theorem words_read {K : PySem.W.Frag} {D a : Addr} {cs : List Value} {s1 s2 sep : Str} {bs : List Bool} {N : List Str} {H : Hp} {Q : VK} (hN : N.length = 5) (hk : kits K D cs = some bs) (hl : (Txt.split (s1 ++ s2) sep).length = bs.length) (hs : (sep.length == 0) = false) (h1 : s1.length + s2.length + 2 ≤ 10000) (hb : bs.length ≤ 1000)
    (hz : ∀ y ∈ Txt.split (s1 ++ s2) sep, y.length ≤ 1000) (hsep : sep.length ≤ 1000)
    (q : ∀ H', Same H H' → Q (.str (Txt.join sep (pick (Txt.split (s1 ++ s2) sep) bs))) H') : tWords K D a cs s1 s2 sep { nx := fun _ H' => Q .non H', rt := Q } (L2.start N [.ref a]) H := by
  have e0 : L2.start N [V.ref a] = [some (V.ref a), none, none, none, none] := by
    unfold L2.start
    rw [hN]; rfl
  rw [e0]
  have sz : ∀ n : Nat, n ≤ 16777216 → n ≤ sizeLine := fun n h => by rw [sizeLine_eq]; exact h
  refine ⟨rfl, bs, hk, sz _ (by rw [List.length_map]; omega), fun b1 hb1 => ?_⟩
  have sm1 : Same H (upd H b1 (.lst (bs.map V.bl))) := same_upd hb1
  have hlen : (s1 ++ s2).length = s1.length + s2.length := by first | exact Str.length_append .. | simp
  generalize hH1 : upd H b1 (.lst (bs.map V.bl)) = H1 at sm1
  have g1 : H1 b1 = some (.lst (bs.map V.bl)) := by rw [← hH1, upd_same]
  refine ⟨V.str s1, rfl, s1, s2, rfl, rfl, sz _ (by omega), ?_⟩
  refine ⟨⟨sep, rfl⟩, V.str (s1 ++ s2), rfl, ⟨_, rfl⟩, s1 ++ s2, sep, rfl, rfl, hs, sz _ (by omega), fun b2 hb2 => ?_⟩
  have sm2 : Same H1 (upd H1 b2 (.lst ((Txt.split (s1 ++ s2) sep).map V.str))) := same_upd hb2
  have g1' := sm2 _ _ g1
  generalize hH2 : upd H1 b2 (.lst ((Txt.split (s1 ++ s2) sep).map V.str)) = H2 at sm2 g1'
  have g2 : H2 b2 = some (.lst ((Txt.split (s1 ++ s2) sep).map V.str)) := by rw [← hH2, upd_same]
  generalize Txt.split (s1 ++ s2) sep = ys at hl hz q g2
  have smA : Same H H2 := sm1.trans sm2
  refine ⟨V.ref b1, rfl, b2, b1, ys.map V.str, bs.map V.bl, rfl, .inl (.inl g2), .inl (.inl g1'), fun L hL => ?_⟩
  have nb1 : b1 ≠ L := ne_of_none g1' hL
  have nb2 : b2 ≠ L := ne_of_none g2 hL
  refine ⟨fun i m Hc => i ≤ bs.length ∧ m = bs.length - i ∧ Same H Hc ∧ Hc b1 = some (.lst (bs.map V.bl)) ∧ Hc b2 = some (.lst (ys.map V.str)) ∧ Hc L = some (.lst ((pick (ys.take i) (bs.take i)).map V.str)),
    ⟨bs.length, Nat.zero_le _, by simp, smA.trans (same_upd hL), (upd_ne nb1).trans g1', (upd_ne nb2).trans g2, by rw [upd_same]; rfl⟩, ?_⟩
  rintro i m Hc ⟨hi, rfl, sm, k1, k2, k3⟩
  have pl : ∀ (xs : List Str) (cs : List Bool), (pick xs cs).length ≤ cs.length := by
    intro xs
    induction xs with
    | nil => intro cs; cases cs <;> simp [pick]
    | cons x xs ih =>
      intro cs
      cases cs with
      | nil => simp [pick]
      | cons c cs =>
        have := ih cs
        cases c <;> simp [pick] <;> omega
  by_cases hlt : i < bs.length
  · have hy : ys[i]? = some ys[i] := List.getElem?_eq_getElem (by omega)
    have hb' : bs[i]? = some bs[i] := List.getElem?_eq_getElem hlt
    generalize ys[i]'(by omega) = y at hy
    generalize bs[i] = b at hb'
    have e1 : (ys.map V.str)[i]? = some (V.str y) := by rw [List.getElem?_map, hy]; rfl
    have e2 : (bs.map V.bl)[i]? = some (V.bl b) := by rw [List.getElem?_map, hb']; rfl
    refine .inr ⟨⟨_, _, _, _, .inl (.inl k2), .inl (.inl k1), e1, e2⟩, _, fun H' nx => ⟨bs.length - (i + 1), by omega, nx⟩, fun v H' hy' => ?_⟩
    obtain ⟨T, x1, x2, rfl, hT, rfl, f1, f2⟩ := hy'
    have z1 := (f1 _ (.inl (.inl k2))).symm.trans e1
    have z2 := (f2 _ (.inl (.inl k1))).symm.trans e2
    cases z1; cases z2
    have smT : Same Hc (upd Hc T (.tup [V.str y, V.bl b])) := same_upd hT
    refine ⟨T, [V.str y, V.bl b], rfl, .inl (.inl upd_same), rfl, V.str y, [V.bl b], rfl, V.bl b, [], rfl, rfl, rfl, V.bl b, rfl, b, rfl, ?_⟩
    have step := pick_take (xs := ys) (bs := bs) hy hb'
    cases b with
    | false =>
      refine ⟨hlt, rfl, sm.trans smT, smT _ _ k1, smT _ _ k2, ?_⟩
      rw [step, if_neg Bool.false_ne_true, List.append_nil]
      exact smT _ _ k3
    | true =>
      have k3' := smT _ _ k3
      refine ⟨V.str y, rfl, _, k3', sz _ ?_, hlt, rfl, fun c o e => ?_, ?_, ?_, ?_⟩
      · have := pl (ys.take i) (bs.take i)
        rw [List.length_map]
        rw [List.length_take] at this
        omega
      · by_cases hc : c = L
        · subst hc
          have := smA _ _ e
          rw [hL] at this
          cases this
        · exact (upd_ne hc).trans (smT _ _ (sm _ _ e))
      · exact (upd_ne nb1).trans (smT _ _ k1)
      · exact (upd_ne nb2).trans (smT _ _ k2)
      · rw [upd_same, step, if_pos rfl, List.map_append]; rfl
  · have e : i = bs.length := by omega
    subst e
    refine .inl ⟨⟨_, _, .inl (.inl k2), .inl (.inl k1), .inl (by rw [List.length_map]; omega)⟩, ?_⟩
    rw [List.take_of_length_le (Nat.le_refl _), List.take_of_length_le (by omega)] at k3
    have sub : ∀ (xs : List Str) (cs : List Bool), (∀ y ∈ xs, y.length ≤ 1000) → ∀ y ∈ pick xs cs, y.length ≤ 1000 := by
      intro xs
      induction xs with
      | nil => intro cs _ y hy; cases cs <;> simp [pick] at hy
      | cons x xs ih =>
        intro cs hx y hy
        cases cs with
        | nil => simp [pick] at hy
        | cons c cs =>
          cases c with
          | false => exact ih cs (fun z hz => hx z (List.mem_cons_of_mem _ hz)) y (by simpa [pick] using hy)
          | true =>
            have hy : y ∈ x :: pick xs cs := by simpa [pick] using hy
            rcases List.mem_cons.mp hy with z | z
            · rw [z]; exact hx x (by simp)
            · exact ih cs (fun z hz => hx z (List.mem_cons_of_mem _ hz)) y z
    refine ⟨sep, L, pick ys bs, rfl, rfl, .inl (.inl (.inl k3)), ?_, q _ sm⟩
    have hp := pl ys bs
    have hsum : ∀ (l : List Str), (∀ y ∈ l, y.length ≤ 1000) → (l.map (·.length)).sum ≤ l.length * 1000 := by
      intro l
      induction l with
      | nil => intro _; simp
      | cons x l ih =>
        intro hx
        have h1 := hx x (by simp)
        have h2 := ih fun y hy => hx y (List.mem_cons_of_mem _ hy)
        rw [List.map_cons, List.sum_cons, List.length_cons, Nat.succ_mul]
        omega
    have h1 := hsum _ (sub ys bs hz)
    have h2 : (pick ys bs).length * sep.length ≤ (pick ys bs).length * 1000 := Nat.mul_le_mul_left _ hsep
    omega
end Iv
set_option maxHeartbeats 2000000
/-! Iv19: more tests, names set by comprehensions, lambdas as values, comprehensions whose block may hold live lambdas. -/
namespace Iv
open PySem PySem.Spec PyProof.Rows L2
section
variable {X : Cx} {G : Gx} {W : WX} {n k : Nat} {pos : Pos} {a b c e : Expr} {ia ib ic ie : Ex}
theorem t_ite (hc : PT X c (tT X.K G W n ic)) (ha : PT X a (tT X.K G W n ia)) (hb : PT X b (tT X.K G W n ib)) : PT X (.IfExp c a b pos) (tT X.K G W n (.ite ic ia ib)) := by
  refine ⟨fun pins s σ H Q I ⟨fr, μ, O, ρ, S, rel, h⟩ => ?_⟩
  have e : evt G n (.ite ic ia ib) ρ S = (evt G n ic ρ S).bind fun k S1 => if k = true then evt G n ia ρ S1 else evt G n ib ρ S1 := by
    show ((ev G n ic ρ S).bind _).bind _ = ((ev G n ic ρ S).bind _).bind _
    cases ev G n ic ρ S with
    | ok d S1 =>
      show Rs.bind (match truth d with | some true => _ | some false => _ | none => _) _ = Rs.bind (match truth d with | some b => _ | none => _) _
      cases truth d with
      | none => rfl
      | some k => cases k <;> rfl
    | exc c S1 => rfl
    | bad => rfl
  rw [e] at h
  obtain ⟨fr', μ', O', ρ', S', rel', h⟩ := tT_bind rel h
  refine isTrue_IfExp (thn (hc.run pins s σ H _ I ⟨fr', μ', O', ρ', S', rel', h⟩) fun d s1 ⟨H1, I1, S1, μ1, s1, rel1, h1⟩ => ?_)
  cases d with
  | true => exact ha.run pins _ σ H1 _ I1 ⟨fr, μ1, O, ρ, S1, rel1, h1⟩
  | false => exact hb.run pins _ σ H1 _ I1 ⟨fr, μ1, O, ρ, S1, rel1, h1⟩
section
variable {elt tg iter tg1 iter1 : Expr} {ifs : List Expr} {scope : Scope} {own : List (Str × Nat)} {spos py : Pos} {it it2 : Itx} {p p2 : Pt} {co : Oex} {i : Nat} {y : Str}
/-- name = [.. for ..], the name a local -/
theorem s_setLc (B : Bx X W k) (hy : X.N[i]? = some y) (hyl : X.env.scope.names.lookup y = some .local) (hsw : swapsWith (.ListComp elt [⟨tg, iter, ifs, 0⟩] scope pos) (some (.Name y py)) spos.line X.env = pure true)
    (hi : PI X tg iter (tI X.K G W n it)) (ok : BlkOk X.N X.env.scope scope own) (hv : ∀ j ∈ p.vars, j ∈ own.map (·.2))
    (hx : BlkG X G n k scope fun Y => PG Y tg (tG X.K G p) ∧ PTs Y ifs (tCo X.K G WF n co) ∧ PE Y elt (tE X.K G WF n ie)) (hs : ∀ x, foldedSetIterable iter X.env x = pure x := by intro _; rfl) :
    PS X (.Assign [.Name y py] (.ListComp elt [⟨tg, iter, ifs, 0⟩] scope pos) spos) (tS X.K G W n (.asg (.nm i) (.comp it p (own.map (·.2)) co ie))) :=
  (ps_setLc B.calm B.nd hy hyl hsw hi ok (fun s H C cl fp => (hx s H C cl fp (B.blk s H scope _ fp)).1) (fun s H C cl fp => (hx s H C cl fp (B.blk s H scope _ fp)).2.1)
    (fun s H C cl fp => (hx s H C cl fp (B.blk s H scope _ fp)).2.2) hs).imp (asg_nm fun σ H Q h => comp_read hv h)
theorem s_setLc2 (B : Bx X W k) (hy : X.N[i]? = some y) (hyl : X.env.scope.names.lookup y = some .local) (hsw : swapsWith (.ListComp elt [⟨tg, iter, [], 0⟩, ⟨tg1, iter1, ifs, 0⟩] scope pos) (some (.Name y py)) spos.line X.env = pure true)
    (hi : PI X tg iter (tI X.K G W n it)) (ok : BlkOk X.N X.env.scope scope own) (hv : ∀ j ∈ p.vars, j ∈ own.map (·.2)) (hv2 : ∀ j ∈ p2.vars, j ∈ own.map (·.2))
    (hx : BlkG X G n k scope fun Y => PG Y tg (tG X.K G p) ∧ PI Y tg1 iter1 (tI X.K G WF n it2) ∧ PG Y tg1 (tG X.K G p2) ∧ PTs Y ifs (tCo X.K G WF n co) ∧ PE Y elt (tE X.K G WF n ie))
    (hs : ∀ x, foldedSetIterable iter X.env x = pure x := by intro _; rfl) (hs1 : ∀ env x, foldedSetIterable iter1 env x = pure x := by intro _ _; rfl) :
    PS X (.Assign [.Name y py] (.ListComp elt [⟨tg, iter, [], 0⟩, ⟨tg1, iter1, ifs, 0⟩] scope pos) spos) (tS X.K G W n (.asg (.nm i) (.comp2 it p it2 p2 (own.map (·.2)) co ie))) :=
  (ps_setLc2 B.calm B.nd hy hyl hsw hi ok hv2 (fun s H C cl fp => (hx s H C cl fp (B.blk s H scope _ fp)).1) (fun s H C cl fp => c_none)
    (fun s H C cl fp => (hx s H C cl fp (B.blk s H scope _ fp)).2.1) (fun s H C cl fp => (hx s H C cl fp (B.blk s H scope _ fp)).2.2.1) (fun s H C cl fp => (hx s H C cl fp (B.blk s H scope _ fp)).2.2.2.1)
    (fun s H C cl fp => (hx s H C cl fp (B.blk s H scope _ fp)).2.2.2.2) hs hs1).imp (asg_nm fun σ H Q h => comp2_read hv hv2 h)
end
/-- a lambda that captures nothing, as a value -/
theorem e_lam {lid : Nat} {cd P : Addr} {params : Arguments} {body : Expr} {scope : Scope} (TB : LamX.TabB X.base X.mg cd P) (hcode : X.env.code = .ref cd) (hmT : (P, X.env.qual ++ "<lambda>") ∈ G.T) (hu : ∀ p ∈ G.T, p.1 = P → p.2 = X.env.qual ++ "<lambda>")
    (hL : G.lamT lid = ⟨X.env.qual ++ "<lambda>", params, body, scope, []⟩) (hdef : defaultsOf params X.env = ([], [])) (hall : ∀ y ∈ scope.names, y.2 ≠ .free) :
    PE X (.Lambda params body scope pos) (tE X.K G W n (.lam lid)) := by
  refine ⟨fun pins s σ H Q I ⟨fr, μ, O, ρ, S, rel, h⟩ => ?_⟩
  have h : End X.K G W (Rp X.K G) fr μ O H σ ρ (.ok (.clo lid []) S) Q := h
  refine lam_make3 I TB hcode hmT hu rel.tabs hdef (fun y hy e => absurd e (hall y hy)) fun fa c' pm ctv H1 s' I1 eN eK T1 hge hf hfn hfr hco' => ?_
  have hcl : cloFrom X.env.cells scope.names [] = [] := by
    cases e : cloFrom X.env.cells scope.names [] with
    | nil => rfl
    | cons q r =>
      obtain ⟨y, c0⟩ := q
      rcases cloFrom_mem (cells := X.env.cells) (names := scope.names) (acc := []) (show (y, c0) ∈ cloFrom X.env.cells scope.names [] by rw [e]; simp) with hm | ⟨h1, _⟩
      · cases hm
      · exact absurd rfl (hall _ h1)
  rw [hcl] at hf
  have nl : fa ≠ X.env.locals := fun z => by
    have h1 := I.lt
    rw [← z] at h1
    exact Nat.lt_irrefl _ (Nat.lt_of_lt_of_le h1 hge)
  have stp : Step μ [] H μ [] H1 := ⟨fun b o e _ _ t => eN b o e t, eK, ⟨[], by simp, by simp⟩, by simp⟩
  have rel1 : Rel X.K G fr μ O H1 σ ρ S := by
    refine rel.next stp ⟨rel.st.len, rel.st.nd, fun m a o e1 e2 => ?_⟩ T1
    have q := rel.st.ob m a o e1 e2
    obtain ⟨xs, ex⟩ := rel.st.isL (List.mem_of_getElem? e1)
    exact q.imp (fun b o e nb t => ⟨eN b o e t, nb⟩) (fun _ _ e => e) ((eN _ _ ex (fun ps z => by cases z)).trans ex.symm)
  -- from now on its object is tracked
  have ob : ObjOk X.prog X.w (upd H1 fa (LamO (G.lamT lid) fa c')) s'.heap fa (LamO (G.lamT lid) fa c') := by
    rw [hL]
    exact ⟨⟨pm, ctv, hf⟩, ⟨_, hf⟩, fun h1 h2 ⟨pm', ctv', e⟩ k => ⟨pm', ctv', k _ e⟩⟩
  have hP : ∀ p ∈ X.pn ++ pins, p.1 ≠ fa := fun p hp z => by
    have h1 := Heap.lt_size (I.pin p hp).1
    rw [z] at h1
    exact Nat.lt_irrefl _ (Nat.lt_of_lt_of_le h1 hge)
  have I2 : Inv X pins σ (upd H1 fa (LamO (G.lamT lid) fa c')) { s' with heap := s'.heap, gens := s'.gens, drawn := s'.drawn, toks := s'.toks } := by
    refine I1.step (ch := [fa]) (fun b hb => ?_) (fun b o _ _ _ e _ => e) (fun b o _ _ _ e _ => ⟨o.slots, e⟩) (fun b o hb e hn => ?_) (fun b o _ e => ⟨o, e⟩) (fun b xs e => (upd_ne (ne_of_none e hfn)).trans e) (fun b o u e => (upd_ne (ne_of_none e hfn)).trans e)
      (fun b ps e => ⟨#[], by rw [upd_ne (ne_of_none e hfn), e]; simp⟩) (fun m hm => hm) (fun b u e => ?_) I1.bare
    · rw [List.mem_singleton.mp hb]
      refine ⟨.inr (Nat.le_trans I.sz hge), nl, fun x c ec z => ?_, hP⟩
      obtain ⟨v, oc, ho, hd⟩ := I1.cell x c ec
      rw [z, hf] at ho
      cases ho
      cases hd
    · exact (upd_ne fun z => hb (by rw [z]; simp)).trans hn
    · by_cases z : b = fa
      · subst z
        rw [upd_same] at e
        cases e
        exact ob
      · rw [upd_ne z] at e
        exact (I1.hok b u e).stay (fun c v _ q => q) (fun c q => (upd_ne (ne_of_none q hfn)).trans q) fun c xs q => (upd_ne (ne_of_none q hfn)).trans q
  have sm : Same H1 (upd H1 fa (LamO (G.lamT lid) fa c')) := same_upd hfn
  have hcn : ¬ NN fr.M O μ c' := fun z => by
    obtain ⟨xs, e⟩ := rel1.nl c' z
    rw [hco'] at e
    cases e
  refine ⟨.ref fa, _, I2, rfl, h _ _ μ (stp.trans (Step.same sm)) (rel1.same sm) (.cloT (c' := c') upd_same (fun z => rel1.nt _ z hfn) (by have e := sm _ _ hco'; rw [hL] at e ⊢; exact e) hcn)⟩
end
end Iv
set_option maxHeartbeats 2000000
/-! Iv20: comprehensions whose block may make lambdas. -/
namespace Iv
open PySem PySem.Spec PyProof.Rows L2
/-- where a block starts -/
def BlkAt (X : Cx) (s : Shared) (H : Hp) (scope : Scope) (C : Addr) (cl : List (Str × Addr)) (fp : List Addr) : Prop := ∃ pins σ, Inv X pins σ H s ∧ (∀ y ∈ scope.names, y.2 = .free → ∃ c, X.env.cells.lookup y.1 = some c) ∧ (∀ b ∈ fp, FpOk X pins H b) ∧
  C = s.heap.objs.size ∧ cl = cellsFrom (s.heap.objs.size + 1) scope.names (cloFrom X.env.cells scope.names [])
theorem BlkAt.live {X : Cx} {G : Gx} {s : Shared} {H : Hp} {scope : Scope} {C : Addr} {cl : List (Str × Addr)} {fp : List Addr} (b : BlkAt X s H scope C cl fp) (l : LiveX G X) : LiveX G (X.blk s H scope (compEnvC scope cl C X.env) fp) := by
  obtain ⟨pins, σ, I, _, hf, _, _⟩ := b
  have one : ∀ {a o}, LiveO X a o → LiveO (X.blk s H scope (compEnvC scope cl C X.env) fp) a o := fun {a o} h => by
    obtain ⟨h1, h2, h3⟩ := h.at I
    refine ⟨h1, h2, h3, fun hm => ?_⟩
    rcases (hf a hm).2.2.2.1 with z | z
    · exact h.noex z
    · exact Nat.lt_irrefl _ (Nat.lt_of_lt_of_le (Heap.lt_size h.get) z)
  exact fun a k e => ⟨one (l a k e).1, fun p hp => one ((l a k e).2 p hp)⟩
theorem BlkAt.cb {X : Cx} {s : Shared} {H : Hp} {scope : Scope} {C : Addr} {cl : List (Str × Addr)} {fp : List Addr} (b : BlkAt X s H scope C cl fp) (h : Cb X) : Cb (X.blk s H scope (compEnvC scope cl C X.env) fp) := fun y c e hm => by
  obtain ⟨pins, σ, I, hfree, hf, _, ecl⟩ := b
  have e : cl.lookup y = some c := e
  have hm : c ∈ frs X.stack := hm
  rw [ecl, ← Heap.size_push s.heap { cls := .type "dict", data := .dict #[] }] at e
  rcases cells_mem (PySem.mem_of_lookup e) with z | ⟨_, h2, _⟩
  · rcases cloFrom_mem z with z | ⟨h1, h2⟩
    · cases z
    · obtain ⟨c1, hc⟩ := hfree _ h1 rfl
      have hc : X.env.cells.lookup y = some c1 := hc
      have e2 : c = c1 := by rw [h2, hc] <;> rfl
      rw [e2] at hm
      exact h y c1 hc hm
  · rw [Heap.size_push] at h2
    rcases List.mem_cons.mp (I.stkSub c hm) with z | z
    · have h1 := I.lt
      rw [← z] at h1
      exact Nat.lt_irrefl _ (Nat.lt_of_lt_of_le (Nat.lt_succ_of_lt h1) h2)
    · exact I.nofs (Nat.le_of_succ_le h2) z
theorem lc_coreL {X : Cx} {pins : List (Addr × Obj)} {s : Shared} {σ : L2.St} {H : Hp} {Q : VK} {elt tg iter : Expr} {ifs : List Expr} {scope : Scope} {own : List (Str × Nat)} {pos pos' : Pos} {wi : TI} {g : TG} {tt : TT} {te : TE} {use : Option (Value → Sem Unit)} {Qf : Value → Shared → Prop}
    (hc : X.calm = true) (hN : X.N.Nodup) (I : Inv X pins σ H s) (hi : PI X tg iter wi) (ok : BlkOk X.N X.env.scope scope own)
    (hg : ∀ (s : Shared) (H : Hp) (C : Addr) (cl : List (Str × Addr)) (fp : List Addr), BlkAt X s H scope C cl fp → PG (X.blk s H scope (compEnvC scope cl C X.env) fp) tg g) (ht : ∀ (s : Shared) (H : Hp) (C : Addr) (cl : List (Str × Addr)) (fp : List Addr), BlkAt X s H scope C cl fp → PTs (X.blk s H scope (compEnvC scope cl C X.env) fp) ifs tt)
    (he : ∀ (s : Shared) (H : Hp) (C : Addr) (cl : List (Str × Addr)) (fp : List Addr), BlkAt X s H scope C cl fp → PE (X.blk s H scope (compEnvC scope cl C X.env) fp) elt te) (hs : ∀ x, foldedSetIterable iter X.env x = pure x)
    (h : tLc wi g tt te (own.map (·.2)) σ H Q)
    (hRR : ∀ D C s' m H', Inv X pins σ H' s' → Q (.ref D) H' → s'.heap.Ns C m → FpOk X pins H' C → compPost (model X.prog X.w) X.A X.xe use Qf (.ref D) C (.ok .next) s') :
    wpAny (model X.prog X.w) X.A (comprehension (.ListComp elt [⟨tg, iter, ifs, 0⟩] scope pos) scope X.env pos' (newList []) false (eval iter X.env) use) Qf X.xe s := by
  have hfree : ∀ y ∈ scope.names, y.2 = .free → ∃ c, X.env.cells.lookup y.1 = some c := fun y hy e => by
    rcases ok.free y hy e with k | k
    · exact I.ok.has _ (.inl k)
    · exact I.ok.has _ (.inr k)
  refine wpAny_comprehension_free (use := use) rfl hs (closure_ok hfree) ok.kind (fun y hy e => by rw [ok.uniq y hy, e])
    (thn (hi.run pins s σ H _ I h) fun xv s1 hx => thn hx fun itv s2 h2 => ?_)
  obtain ⟨it, fp, tn, J, H2, e, I2, T, st2, f2, q⟩ := h2
  subst e
  refine wpAny_newObj_type (newEnv_comp ?_) (by show 0 ≤ sizeLine; decide)
  generalize hD : s2.heap.objs.size = D
  have hDn : H2 D = none := I2.hok.fresh (Nat.le_of_eq hD)
  obtain ⟨W, ⟨m0, w0⟩, turn⟩ := q D hDn
  generalize hs3 : ({ s2 with heap := s2.heap.push { cls := .type "list", data := .seq ([] : List Value).toArray } } : Shared) = s3
  have I3 : Inv X pins σ (upd H2 D (.lst [])) s3 := by
    rw [← hs3]
    refine I2.laid (t' := s2.toks) (fun b o e => Heap.get?_push_of_some _ e) (Nat.le_of_eq hD) ⟨Nat.zero_le _, [], 0, .nil, ?_⟩
    rw [← hD]
    exact Heap.get?_push_size _ rfl
  have h3 : s3.heap = s2.heap.push { cls := .type "list", data := .seq ([] : List Value).toArray } := by rw [← hs3]
  have sz : ∀ b ∈ fp, b < s2.heap.objs.size := fun b hb => by
    obtain ⟨o, e, _⟩ := T.obj _ _ st2 b hb
    exact Heap.lt_size e
  have f3 : ∀ b ∈ fp, FpOk X pins (upd H2 D (.lst [])) b ∧ b < s3.heap.objs.size := fun b hb => by
    have hlt := sz b hb
    refine ⟨⟨?_, (f2 b hb).2⟩, by rw [h3, Heap.size_push]; exact Nat.lt_succ_of_lt hlt⟩
    rw [upd_ne (by rw [← hD]; exact Nat.ne_of_lt hlt)]
    exact (f2 b hb).1
  have st3 : tn 0 s3.heap := T.keep _ _ _ st2 fun b _ o e => by rw [h3]; exact Heap.get?_push_of_some _ e
  have I4 := block_start I3 ok hN f3
  have hBA : BlkAt X s3 (upd H2 D (.lst [])) scope s3.heap.objs.size (cellsFrom (s3.heap.objs.size + 1) scope.names (cloFrom X.env.cells scope.names [])) fp := ⟨pins, σ, I3, hfree, fun b hb => (f3 b hb).1, rfl, rfl⟩
  have pg := hg s3 (upd H2 D (.lst [])) s3.heap.objs.size (cellsFrom (s3.heap.objs.size + 1) scope.names (cloFrom X.env.cells scope.names [])) fp hBA
  have pt := ht s3 (upd H2 D (.lst [])) s3.heap.objs.size (cellsFrom (s3.heap.objs.size + 1) scope.names (cloFrom X.env.cells scope.names [])) fp hBA
  have pe := he s3 (upd H2 D (.lst [])) s3.heap.objs.size (cellsFrom (s3.heap.objs.size + 1) scope.names (cloFrom X.env.cells scope.names [])) fp hBA
  show codeAny _ _ (.compStart (.ListComp elt [⟨tg, iter, ifs, 0⟩] scope pos) 0 (.ref it) (.ref D) (compEnvC scope (cellsFrom (s3.heap.objs.size + 1) scope.names (cloFrom X.env.cells scope.names [])) s3.heap.objs.size X.env)) (compPost (model X.prog X.w) X.A X.xe use Qf (.ref D) s3.heap.objs.size) { s3 with heap := pushCells (s3.heap.push { cls := .type "dict", data := .dict #[] }) scope.names }
  have nfp : ∀ b ∈ fp, (upd H2 D (.lst [])) b = none := fun b hb => (f3 b hb).1.1
  generalize hce : compEnvC scope (cellsFrom (s3.heap.objs.size + 1) scope.names (cloFrom X.env.cells scope.names [])) s3.heap.objs.size X.env = ce at I4 pg pt pe ⊢
  have cL : ce.locals = s3.heap.objs.size := by subst hce; rfl
  generalize hH3 : upd H2 D (.lst []) = H3 at I3 I4 pg pt pe w0 nfp f3
  generalize hs4 : ({ s3 with heap := pushCells (s3.heap.push { cls := .type "dict", data := .dict #[] }) scope.names } : Shared) = s4 at I4 ⊢
  have st4 : tn 0 s4.heap := T.keep _ _ _ st3 fun b _ o e => by rw [← hs4]; exact pushCells_keeps _ _ _ _ (Heap.get?_push_of_some _ e)
  have stat : ∀ {σ' : L2.St} {H' : Hp} {s' : Shared}, Inv (X.blk s3 H3 scope ce fp) [] σ' H' s' → (∀ b ∈ fp, H' b = none) → ∀ b ∈ fp, FpOk (X.blk s3 H3 scope ce fp) [] H' b := fun {σ' H' s'} I' hn b hb =>
    ⟨hn b hb, (I'.ok.exf b hb).1, I'.ok.exfs b hb, .inl hb, fun x c e => (I'.ok.exf b hb).2 x c e, fun p hp => absurd (show p ∈ ([] : List (Addr × Obj)) ++ [] from hp) (by simp)⟩
  have loop : codeAny (model X.prog X.w) X.A (.compLoop (.ListComp elt [⟨tg, iter, ifs, 0⟩] scope pos) 0 (.ref it) (.ref D) ce) (compPost (model X.prog X.w) X.A X.xe use Qf (.ref D) s3.heap.objs.size) s4 := by
    refine compLoop_any (fun n s' => ∃ i H', Inv (X.blk s3 H3 scope ce fp) [] (L2.wipe σ (own.map (·.2))) H' s' ∧ tn i s'.heap ∧ (∀ b ∈ fp, H' b = none) ∧ W i n H') ?_ m0 ⟨0, H3, I4, st4, nfp, w0⟩
    rintro n s5 ⟨i, H5, I5, st5, n5, w5⟩
    rcases turn i n H5 w5 with ⟨stop, qq⟩ | ⟨go, Nx, hNx, step⟩
    · have td := T.done (X.blk s3 H3 scope ce fp) rfl rfl rfl hc i [] s5 _ H5 (fun _ _ => False) I5 (stat I5 n5) st5 stop
      refine thnF td fun r s6 ⟨hr, I6⟩ => ?_
      subst hr
      have I7 : Inv X pins σ H5 s6 := I3.call' (ch := fp) I6.os I6.base I6.hok I6.bare fun b hb => ⟨(f3 b hb).1.2.2.2.1, (f3 b hb).1.2.1, (f3 b hb).1.2.2.2.2.1, (f3 b hb).1.2.2.2.2.2⟩
      have nC : H5 s3.heap.objs.size = none := by
        have z : H5 ce.locals = none := I6.free
        rw [cL] at z
        exact z
      obtain ⟨m, hn, _⟩ := I6.loc
      have hn : s6.heap.Ns ce.locals m := hn
      rw [cL] at hn
      exact hRR D s3.heap.objs.size s6 m H5 I7 qq hn (I3.fpOk (Nat.le_refl _) nC)
    · have ti := T.item (X.blk s3 H3 scope ce fp) rfl rfl rfl hc i [] s5 _ H5 (fun _ _ => False) I5 (stat I5 n5) st5 go
      refine thnF ti fun r s6 ⟨u, hr, h6⟩ => ?_
      subst hr
      refine thnF h6 fun _ s7 ⟨x, H7, I7, r7, y7, st7, n7⟩ => ?_
      have I7' := I7.pinned (stat I7 n7) (T.obj _ _ st7)
      refine thnF (pg.run _ s7 _ H7 x u _ I7' r7 (step x H7 y7)) fun _ s8 ⟨σ8, H8, I8, hw8, q8⟩ => ?_
      refine thnF (pt.run _ s8 σ8 H8 _ I8 q8) fun b s9 ⟨H9, I9, q9⟩ => ?_
      have fin : ∀ {s' : Shared} {H' : Hp}, Inv (X.blk s3 H3 scope ce fp) ([] ++ pinsAt fp s7.heap) σ8 H' s' → Nx H' → ∃ m, m < n ∧ ∃ i H', Inv (X.blk s3 H3 scope ce fp) [] (L2.wipe σ (own.map (·.2))) H' s' ∧ tn i s'.heap ∧ (∀ b ∈ fp, H' b = none) ∧ W i m H' := fun {s' H'} I' nx => by
        obtain ⟨m', hm, w'⟩ := hNx H' nx
        have pin' : ∀ b ∈ fp, ∀ o, s7.heap.get? b = some o → s'.heap.get? b = some o ∧ H' b = none := fun b hb o e =>
          let z := I'.pin (b, o) (List.mem_append_right _ (List.mem_append_right _ (mem_pinsAt hb e)))
          ⟨z.1, z.2.1⟩
        have hl : (L2.wipe σ (own.map (·.2))).length = σ8.length := by rw [← hw8, wipe_length]
        refine ⟨m', hm, i + 1, H', (I'.unpinned (pins := [])).weak hl (fun j v e => ?_), T.keep _ _ _ st7 fun b hb o e => (pin' b hb o e).1, fun b hb => ?_, w'⟩
        · rw [← hw8] at e
          exact (wipe_some e).1
        · obtain ⟨o, e, _⟩ := T.obj _ _ st7 b hb
          exact (pin' b hb o e).2
      cases b with
      | false =>
        simp only [Bool.false_eq_true, if_false] at q9 ⊢
        exact fin I9 q9
      | true =>
        simp only [if_true] at q9 ⊢
        refine thnF (pe.run _ s9 σ8 H9 _ I9 q9) fun z s10 ⟨yv, H10, I10, r10, acc, hD10, hz10, nx⟩ => ?_
        exact app_ok (X := X.blk s3 H3 scope ce fp) I10 hD10 hz10 r10 fun s11 I11 => fin I11 nx
  exact codeAny_compStart_list loop (T.self X.A 0 _ _ _ st4 loop)
section
variable {X : Cx} {G : Gx} {W : WX} {n k : Nat} {pos : Pos} {elt tg iter : Expr} {ifs : List Expr} {scope : Scope} {own : List (Str × Nat)} {it : Itx} {p : Pt} {co : Oex} {ie : Ex}
theorem e_compL (B : Bx X W k) (live : LiveX G X) (cb : Cb X) (hi : PI X tg iter (tI X.K G W n it)) (ok : BlkOk X.N X.env.scope scope own) (hv : ∀ j ∈ p.vars, j ∈ own.map (·.2))
    (hx : ∀ (s : Shared) (H : Hp) (C : Addr) (cl : List (Str × Addr)) (fp : List Addr), Bx (X.blk s H scope (compEnvC scope cl C X.env) fp) WF k → LiveX G (X.blk s H scope (compEnvC scope cl C X.env) fp) → Cb (X.blk s H scope (compEnvC scope cl C X.env) fp) →
      PG (X.blk s H scope (compEnvC scope cl C X.env) fp) tg (tG X.K G p) ∧ PTs (X.blk s H scope (compEnvC scope cl C X.env) fp) ifs (tCo X.K G WF n co) ∧ PE (X.blk s H scope (compEnvC scope cl C X.env) fp) elt (tE X.K G WF n ie))
    (hs : ∀ x, foldedSetIterable iter X.env x = pure x := by intro _; rfl) :
    PE X (.ListComp elt [⟨tg, iter, ifs, 0⟩] scope pos) (tE X.K G W n (.comp it p (own.map (·.2)) co ie)) := by
  refine ⟨fun pins s σ H Q I h => ?_⟩
  rw [eval_ListComp]
  refine lc_coreL (g := tG X.K G p) (tt := tCo X.K G WF n co) (te := tE X.K G WF n ie) B.calm B.nd I hi ok (fun s H C cl fp b => (hx s H C cl fp (B.blk s H scope _ fp) (b.live live) (b.cb cb)).1) (fun s H C cl fp b => (hx s H C cl fp (B.blk s H scope _ fp) (b.live live) (b.cb cb)).2.1)
    (fun s H C cl fp b => (hx s H C cl fp (B.blk s H scope _ fp) (b.live live) (b.cb cb)).2.2) hs (comp_read hv h) fun D C s' m H' I' q hn f => ⟨m, hn, fun h'' sb => ?_⟩
  obtain ⟨f0, f1, f2, f3, f4, f5⟩ := f
  exact ⟨.ref D, H', I'.turned (t' := s'.toks) (fun b o hb e => (sb.2 b hb).trans e) f0 f1 f3 f4 f5, rfl, q⟩
end
end Iv
set_option maxHeartbeats 3200000
/-! Iv21: set(list), for values that can be added one by one. -/
namespace Iv
open PySem PySem.Spec PyProof.Rows L2 PpSet
/-- the set at S holds the first i of items; one more can be added -/
structure SetZ (P : Program) (w : World) (S : Addr) (items : List Value) (Z : Nat → Heap → Prop) : Prop where
  keep : ∀ i (h h' : Heap), Z i h → (∀ o, h.get? S = some o → h'.get? S = some o) → Z i h'
  add : ∀ (A : Around) (E : Value → Shared → Prop) (s : Shared) (i : Nat) (v : Value) (Q : Bool → Shared → Prop), items[i]? = some v → Z i s.heap → (∀ b h' tk, Heap.SameBut S s.heap h' → s.toks ≤ tk → Z (i + 1) h' → Q b { s with heap := h', toks := tk }) → wpAny (model P w) A (setAdd S v) Q E s
section
variable {P : Program} {w : World} {A : Around} {E : Value → Shared → Prop} {s : Shared}
theorem set_update_Z {I : Addr} {fp wr : List Addr} {G : Array GenState → Array GenState → Prop} {n : Nat} {St : Nat → Shared → Prop} {R : Result → Shared → Prop} {items : List Value} {S : Addr} {Z : Nat → Heap → Prop}
    (W : WalksS P w A.in1 I fp wr G n (fun i v => items[i]? = some v) St) (hSf : S ∉ fp) (hn : n = items.length) (hz : SetZ P w S items Z) :
    ∀ (k i : Nat) (s : Shared), n - i = k → i ≤ n → St i s → Z i s.heap →
      (∀ s', Moved (S :: wr) G s s' → Z n s'.heap → R (.ok (.ret .none)) s') →
      codeAny (model P w) A (.builtin "set.update.loop" ⟨[.ref S, .ref I], []⟩) R s := by
  have hSw : S ∉ wr := fun h => hSf (W.sub _ h)
  have hsub : ∀ b ∈ wr, b ∈ S :: wr := fun b hb => List.mem_cons_of_mem _ hb
  intro k
  induction k with
  | zero =>
    intro i s hk' hi hst hS hR
    have hin : i = n := by omega
    subst hin
    refine codeAny_builtin F.entry_set_update_loop ?_
    rw [Around.under_plainId F.plain_set_update_loop _]
    show wpAny _ A.in1 (pyNext (.ref I) >>= _) _ _ s
    refine wpAny_bind (W.done s _ _ hst fun s' hm => ?_)
    show wpAny _ A.in1 (ret Value.none) _ _ s'
    exact wpAny_pure (hR s' (hm.mono hsub) (hz.keep _ _ _ hS fun o e => hm.heap S o hSw e))
  | succ k ih =>
    intro i s hk' hi hst hS hR
    have hlt : i < n := by omega
    refine codeAny_builtin F.entry_set_update_loop ?_
    rw [Around.under_plainId F.plain_set_update_loop _]
    show wpAny _ A.in1 (pyNext (.ref I) >>= _) _ _ s
    refine wpAny_bind (W.item i s _ _ hlt hst fun v s' hP hst' hm => ?_)
    show wpAny _ A.in1 (holding [v] (setAdd S v) >>= _) _ _ s'
    refine wpAny_bind (wpAny_holding (hz.add _ _ s' i v _ hP (hz.keep _ _ _ hS fun o e => hm.heap S o hSw e) fun b h' tk hsb htk hS3 => ?_))
    refine wpAny_pure ⟨plainId_quiet F.plain_set_update_loop _, ih (i + 1) _ (by omega) hlt (W.frame _ s' _ _ hst' htk fun b hb o e => ?_) hS3 fun s'' hm'' hS'' => ?_⟩
    · rw [hsb.2 b (fun h : b = S => hSf (by rw [← h]; exact hb))]; exact e
    · refine hR s'' (Moved.trans W.gtrans ((hm.mono hsub).then_heap htk fun b o hb e => ?_) hm'') hS''
      rw [hsb.2 b (fun h : b = S => hb (by rw [h]; exact List.mem_cons_self))]; exact e
set_option maxRecDepth 100000 in
theorem call_set_Z {l : Addr} {items : Array Value} {Z : Nat → Heap → Prop} {Q : Value → Shared → Prop} (hh : A.handled = none) (hl : s.heap.IsList l items) (hz : SetZ P w s.heap.objs.size items.toList Z)
    (h0 : ∀ h : Heap, h.get? s.heap.objs.size = some { cls := .type "set", dict := none, data := .set #[] 0 (.fresh 0 0 (!w.params.followText "set-order")) } → Z 0 h)
    (h : ∀ (h' : Heap) (tk : Nat), Z items.size h' → (∀ b o, s.heap.get? b = some o → h'.get? b = some o) → Q (.ref s.heap.objs.size) { s with heap := h', toks := tk }) :
    wpAny (model P w) A (call (.type "set") [.ref l]) Q E s := by
  obtain ⟨c, tl, hmro⟩ := F.called_set.mro
  have hmade := F.called_set.made
  have hsub := F.called_set.sub
  refine wpAny_call (codeAny_of_tree ?_)
  show wpAny _ _ (callAny (.type "set") _) _ _ _
  refine wpAny_pure ⟨Code.quiet_builtin _ (by decide +kernel), codeAny_builtin F.entry_type_call ?_⟩
  rw [Around.under_plain (weight_type_call_type "set" [.ref l] []) rfl]
  have h1 := F.called_set.notType
  have h2 := F.called_set.canCreate
  have hct := F.typeCall_set_1 (.ref l)
  repeat (any_goals (first | assumption | wp_step))
  refine codeAny_mono (code_set_led1 (.ref l) (E := E) (Q₁ := fun obj s₁ => obj = .ref s.heap.objs.size ∧ s₁ = { s with heap := s.heap.push { cls := .type "set", dict := none, data := .set #[] 0 (.fresh 0 0 (!w.params.followText "set-order")) } }) ⟨rfl, rfl⟩) fun r s₁ hr => ?_
  cases r with
  | error e => exact hr
  | ok fl =>
    cases fl with
    | ret obj =>
      obtain ⟨rfl, rfl⟩ := hr
      have hS : (s.heap.push { cls := .type "set", dict := none, data := .set #[] 0 (.fresh 0 0 (!w.params.followText "set-order")) }).get? s.heap.objs.size = some { cls := .type "set", dict := none, data := .set #[] 0 (.fresh 0 0 (!w.params.followText "set-order")) } := Heap.get?_push_size _ rfl
      have hT : Shared.TypeIs { s with heap := s.heap.push { cls := .type "set", dict := none, data := .set #[] 0 (.fresh 0 0 (!w.params.followText "set-order")) } } (.ref s.heap.objs.size) "set" := ⟨_, hS, rfl⟩
      have hli := F.called_set.init.lookup
      have hbi := F.called_set.init.bind (.ref s.heap.objs.size)
      repeat (any_goals (first | assumption | wp_step))
      refine codeAny_mono (codeAny_call_builtin (R := wants (fun r s₂ => r = .none ∧ ∃ h' tk, s₂ = { s with heap := h', toks := tk } ∧ Z items.size h' ∧
          (∀ b o, s.heap.get? b = some o → h'.get? b = some o)) E) F.called_set.init.plain F.entry_set_init (check_set_init_1 hT ?_)) fun r₂ s₂ hr₂ => ?_
      · obtain ⟨ol, hol, hcl, nl, hdl⟩ := hl
        obtain ⟨ocls, odict, odata, oslots⟩ := ol
        simp only at hcl hdl
        subst hcl; subst hdl
        have hol' : (s.heap.push { cls := .type "set", dict := none, data := .set #[] 0 (.fresh 0 0 (!w.params.followText "set-order")) }).get? l = some { cls := .type "list", dict := odict, data := .seq items nl, slots := oslots } := Heap.get?_push_of_some _ hol
        have hsls := F.sub_list_set
        have hslf := F.sub_list_frozenset
        have hne : (Value.type "list" == Value.type "dict") = false := by decide
        have hl1 : (s.heap.push { cls := .type "set", dict := none, data := .set #[] 0 (.fresh 0 0 (!w.params.followText "set-order")) }).IsList l items := ⟨_, hol', rfl, nl, rfl⟩
        unfold Builtin.«set.__init__» noKeywords Builtin.Frozenset.updateFrom
        generalize hPI : pyIter = PI
        wp_walk
        subst hPI
        refine wpAny_pyIter_list hl1 ?_
        refine wpAny_bind (wpAny_runValue ?_)
        have hlS : l < s.heap.objs.size := Heap.lt_size hol
        have hh3 : A.in1.in1.in1.handled = none := by simp [hh]
        have hz1 : (s.heap.push { cls := .type "set", dict := none, data := .set #[] 0 (.fresh 0 0 (!w.params.followText "set-order")) }).objs.size = s.heap.objs.size + 1 := Heap.size_push ..
        have hneI : l ≠ (s.heap.push { cls := .type "set", dict := none, data := .set #[] 0 (.fresh 0 0 (!w.params.followText "set-order")) }).objs.size := by
          rw [Heap.size_push]; exact Nat.ne_of_lt (Nat.lt_succ_of_lt hlS)
        have hSf : s.heap.objs.size ∉ [(s.heap.push { cls := .type "set", dict := none, data := .set #[] 0 (.fresh 0 0 (!w.params.followText "set-order")) }).objs.size, l] := by
          rw [Heap.size_push]; simp only [List.mem_cons, List.mem_singleton, List.not_mem_nil, or_false, not_or]
          exact ⟨Nat.ne_of_lt (Nat.lt_succ_self _), Nat.ne_of_gt hlS⟩
        have W0 := (Walks.list (prog := P) (w := w) hh3 (s.heap.push { cls := .type "set", dict := none, data := .set #[] 0 (.fresh 0 0 (!w.params.followText "set-order")) }).objs.size l hneI items).toS
        have eP : (fun (i : Nat) (v : Value) => items[i]? = some v) = fun i v => items.toList[i]? = some v := by
          funext i v
          rw [Array.getElem?_toList]
        rw [eP] at W0
        refine set_update_Z (items := items.toList) (Z := Z) W0 hSf (by simp) hz (items.size - 0) 0 _ (by omega) (Nat.zero_le _)
          ⟨⟨_, Heap.get?_push_size _ rfl, rfl, rfl⟩, (hl1.push _)⟩ ?hS0 ?hR
        case hS0 =>
          have hget : ((s.heap.push { cls := .type "set", dict := none, data := .set #[] 0 (.fresh 0 0 (!w.params.followText "set-order")) }).push { cls := .type "list_iterator", data := .fields #[.ref l, .int 0 0] }).get? s.heap.objs.size
              = some { cls := .type "set", dict := none, data := .set #[] 0 (.fresh 0 0 (!w.params.followText "set-order")) } := Heap.get?_push_of_some _ hS
          exact h0 _ hget
        case hR =>
          intro s' hm hS'
          obtain ⟨h', g2, d', tk', os'⟩ := s'
          have eg : g2 = s.gens := hm.gens
          have ed : d' = s.drawn := hm.drawn
          have eo : os' = s.os := hm.os
          subst eg; subst ed; subst eo
          show wpAny _ _ _ _ _ _
          refine wpAny_pure ?_
          show wpAny _ _ (ret Value.none) _ _ _
          refine wpAny_pure ⟨rfl, h', tk', rfl, hS', fun b o e => ?_⟩
          have hb0 : b < s.heap.objs.size := Heap.lt_size e
          have hb1 : b ≠ s.heap.objs.size := Nat.ne_of_lt hb0
          have hb2 : b ≠ (s.heap.push { cls := .type "set", dict := none, data := .set #[] 0 (.fresh 0 0 (!w.params.followText "set-order")) }).objs.size := by
            rw [Heap.size_push]; exact Nat.ne_of_lt (Nat.lt_succ_of_lt hb0)
          exact hm.heap b o (by simp only [List.mem_cons, List.mem_singleton, List.not_mem_nil, or_false, not_or]; exact ⟨hb1, hb2⟩) (Heap.get?_push_of_some _ (Heap.get?_push_of_some _ e))
      · cases r₂ with
        | error e => exact hr₂
        | ok fl₂ =>
          cases fl₂ with
          | ret r =>
            obtain ⟨rfl, h', tk, rfl, hS', hk'⟩ := hr₂
            repeat (any_goals (first | assumption | wp_step))
            exact h _ _ hS' hk'
          | _ => exact hr₂.elim
    | _ => exact hr.elim
/-- ints can be added -/
theorem setZ_int {S : Addr} {items : List Value} {ns : List Int} (hit : IntsAre items ns) (hb : ns.length + 1 < scanBound) : SetZ P w S items (fun i h => ∃ c, c ≤ i ∧ SetR w h S (fun j => decide (j ∈ ns.take i)) c) where
  keep := fun i h h' ⟨c, hc, r⟩ k => ⟨c, hc, r.at k⟩
  add := fun A E s i v Q hv ⟨c, hc, r⟩ hQ => by
    have hl := IntsAre.length hit
    have hi : i < ns.length := by rw [← hl]; exact (List.getElem?_eq_some_iff.mp hv).1
    obtain ⟨t, e⟩ := PyProof.Rows.IntsAre.int_at hit i v hv
    have e2 : ns.getD i 0 = ns[i] := by rw [List.getD_eq_getElem?_getD, List.getElem?_eq_getElem hi]; rfl
    rw [e2] at e
    subst e
    unfold setAdd
    refine wpAny_holding ?_
    refine wpAny_bind ((intKind P w).pyHash (k := ns[i]) (intKind_is _ _ _ _) ?_)
    have ej : ∀ j : Int, decide (j ∈ ns.take (i + 1)) = (decide (j ∈ ns.take i) || decide (j = ns[i])) := fun j => by
      have e : j ∈ ns.take (i + 1) ↔ (j ∈ ns.take i ∨ j = ns[i]) := by
        rw [List.take_succ_eq_append_getElem hi, List.mem_append, List.mem_singleton]
      rw [← Bool.decide_or]
      exact decide_eq_decide.mpr e
    exact setR_add_hashed (s := { s with toks := s.toks + 1 }) r (by omega) fun h' hsb hS2 => hQ _ h' _ hsb (Nat.le_succ _) ⟨_, by split <;> omega, hS2.congr ej⟩
/-- truth values can be added -/
theorem setZ_bool {S : Addr} {items : List Value} {bs : List Bool} (hit : items = bs.map Value.bool) (hb : bs.length + 1 < scanBound) : SetZ P w S items (fun i h => ∃ c, c ≤ i ∧ SetB w h S (fun j => decide (j ∈ bs.take i)) c) where
  keep := fun i h h' ⟨c, hc, r⟩ k => ⟨c, hc, r.at k⟩
  add := fun A E s i v Q hv ⟨c, hc, r⟩ hQ => by
    rw [hit, List.getElem?_map] at hv
    have hi : i < bs.length := by
      by_cases h : i < bs.length
      · exact h
      · rw [List.getElem?_eq_none (Nat.le_of_not_lt h)] at hv; cases hv
    rw [List.getElem?_eq_getElem hi] at hv
    cases hv
    unfold setAdd
    refine wpAny_holding ?_
    refine wpAny_bind ((boolK P w).pyHash (boolK_is P w bs[i]) ?_)
    have ej : ∀ j : Bool, decide (j ∈ bs.take (i + 1)) = (decide (j ∈ bs.take i) || decide (j = bs[i])) := fun j => by
      have e : j ∈ bs.take (i + 1) ↔ (j ∈ bs.take i ∨ j = bs[i]) := by
        rw [List.take_succ_eq_append_getElem hi, List.mem_append, List.mem_singleton]
      rw [← Bool.decide_or]
      exact decide_eq_decide.mpr e
    exact setB_add_hashed (s := { s with toks := s.toks + 1 }) r (by omega) fun h' hsb hS2 => hQ _ h' _ hsb (Nat.le_succ _) ⟨_, by split <;> omega, hS2.congr ej⟩
end
end Iv
set_option maxHeartbeats 1000000
/-! Iv22: sorted(set(list)). -/
namespace Iv
open PySem PySem.Spec PyProof.Rows L2
theorem insU_mem {x y : Int} : ∀ {l : List Int}, y ∈ insU x l ↔ y = x ∨ y ∈ l
  | [] => by simp [insU]
  | z :: l => by
    unfold insU
    by_cases h1 : x < z
    · rw [if_pos h1]; simp
    · rw [if_neg h1]
      by_cases h2 : x = z
      · rw [if_pos h2, h2]; simp
      · rw [if_neg h2, List.mem_cons, insU_mem, List.mem_cons]
        constructor
        · rintro (h | h | h)
          · exact .inr (.inl h)
          · exact .inl h
          · exact .inr (.inr h)
        · rintro (h | h | h)
          · exact .inr (.inl h)
          · exact .inl h
          · exact .inr (.inr h)
theorem insU_asc {x : Int} : ∀ {l : List Int}, l.Pairwise (· < ·) → (insU x l).Pairwise (· < ·)
  | [], _ => by simp [insU]
  | z :: l, h => by
    obtain ⟨h1, h2⟩ := List.pairwise_cons.mp h
    unfold insU
    by_cases c1 : x < z
    · rw [if_pos c1]
      refine List.pairwise_cons.mpr ⟨fun y hy => ?_, h⟩
      rcases List.mem_cons.mp hy with e | e
      · rw [e]; exact c1
      · exact Int.lt_trans c1 (h1 y e)
    · rw [if_neg c1]
      by_cases c2 : x = z
      · rw [if_pos c2]; exact h
      · rw [if_neg c2]
        refine List.pairwise_cons.mpr ⟨fun y hy => ?_, insU_asc h2⟩
        rcases insU_mem.mp hy with e | e
        · rw [e]; omega
        · exact h1 y e
theorem usort_mem {y : Int} : ∀ {l : List Int}, y ∈ usort l ↔ y ∈ l
  | [] => by simp [usort]
  | x :: l => by rw [usort, insU_mem, usort_mem, List.mem_cons]
theorem usort_asc : ∀ {l : List Int}, (usort l).Pairwise (· < ·)
  | [] => by simp [usort]
  | x :: l => insU_asc usort_asc
theorem asc_uniq : ∀ {l m : List Int}, l.Pairwise (· < ·) → m.Pairwise (· < ·) → (∀ x, x ∈ l ↔ x ∈ m) → l = m
  | [], [], _, _, _ => rfl
  | [], y :: m, _, _, h => by have := (h y).mpr (by simp); simp at this
  | x :: l, [], _, _, h => by have := (h x).mp (by simp); simp at this
  | x :: l, y :: m, hl, hm, h => by
    obtain ⟨l1, l2⟩ := List.pairwise_cons.mp hl
    obtain ⟨m1, m2⟩ := List.pairwise_cons.mp hm
    have hx : x = y := by
      rcases List.mem_cons.mp ((h x).mp (by simp)) with e | e
      · exact e
      · rcases List.mem_cons.mp ((h y).mpr (by simp)) with e' | e'
        · exact e'.symm
        · have := m1 x e
          have := l1 y e'
          omega
    subst hx
    rw [asc_uniq l2 m2 fun z => ⟨fun hz => ?_, fun hz => ?_⟩]
    · rcases List.mem_cons.mp ((h z).mp (List.mem_cons_of_mem _ hz)) with e | e
      · have := l1 z hz; omega
      · exact e
    · rcases List.mem_cons.mp ((h z).mpr (List.mem_cons_of_mem _ hz)) with e | e
      · have := m1 z hz; omega
      · exact e
theorem nodup_le : ∀ {l m : List Int}, l.Nodup → (∀ x ∈ l, x ∈ m) → l.length ≤ m.length
  | [], _, _, _ => Nat.zero_le _
  | x :: l, m, hn, h => by
    obtain ⟨h1, h2⟩ := List.nodup_cons.mp hn
    have hx := h x (by simp)
    have := nodup_le (m := m.erase x) h2 fun y hy => (List.mem_erase_of_ne (fun e => h1 (by rw [← e]; exact hy))).mpr (h y (List.mem_cons_of_mem _ hy))
    rw [List.length_erase_of_mem hx] at this
    have hp : 0 < m.length := List.length_pos_of_mem hx
    rw [List.length_cons]
    omega
section
variable {X : Cx}
/-- sorted(set(e)), e a list of ints -/
def tSSetI (K : PySem.W.Frag) (ta : TE) : TE := fun σ H Q => ta σ H fun x H1 => ∃ (l : Addr) (ns : List Int), x = .ref l ∧ SqL K H1 l (ns.map V.int) ∧ (usort ns).length < 64 ∧ ns.length ≤ 1000 ∧ ∀ p, H1 p = none → Q (.ref p) (upd H1 p (.lst ((usort ns).map V.int)))
theorem pe_sset_int {a : Expr} {ta : TE} {p p2 q pos : Pos} (hg : Gl X "sorted") (hm : X.mg "sorted" = none) (hg2 : Gl X "set") (hm2 : X.mg "set" = none) (ha : PE X a ta) (hc : X.calm = true)
    (na : starEach [a] X.env = (false, eval a X.env) :: starEach [] X.env := by rfl) : PE X (.Call (.Name "sorted" p) [.Call (.Name "set" p2) [a] [] q] [] pos) (tSSetI X.K ta) := by
  refine ⟨fun pins s σ H Q I h => ?_⟩
  refine Call_ (ld_blt I hg hm boot_sorted ?_)
  refine PyProof.Rows.callWith_builtin1 (PyProof.Rows.args_cons ?_ rfl) rfl rfl
  refine Call_ (ld_blt I hg2 hm2 boot_set ?_)
  refine PyProof.Rows.callWith_type1 (PyProof.Rows.args_cons (thn (ha.run pins s σ H _ I h) fun v s1 ⟨x, H1, I1, r1, q1⟩ => PyProof.Rows.args_nil ?_) na) na rfl
  obtain ⟨l, ns, rfl, hq, h64, hl, q1⟩ := q1
  cases r1
  obtain ⟨its, r, pl, hz⟩ := I1.list hq
  have hi : IntsAre its.toArray.toList ns := by rw [List.toList_toArray]; exact ints_of_vals r
  refine call_set_Z (I1.ok.hd hc) pl.isList (setZ_int hi (by unfold scanBound; omega)) (fun h e => ⟨0, Nat.le_refl 0, setR_new_at (ns := ns) e⟩) fun h' tk ⟨c, _, R⟩ hk => ?_
  refine PyProof.Rows.args_nil ?_
  have hlen : its.toArray.size = ns.length := by rw [List.size_toArray, ← r.length, List.length_map]
  have R2 : SetR X.w h' s1.heap.objs.size (fun j => decide (j ∈ ns)) c := by
    rw [hlen, List.take_length] at R
    exact R
  have hc64 : c < 64 := by
    obtain ⟨o, es, ep, t, ho, hex, hd, g, nd, hm', hb, hf, hn, hr, hll⟩ := id R2
    have : (es.toList.map keyOf).length ≤ (usort ns).length := nodup_le nd fun x hx => usort_mem.mpr (by simpa using (hm' x).mpr hx)
    rw [List.length_map, Array.length_toList, hn] at this
    omega
  have I2 : Inv X pins σ H1 { s1 with heap := h', toks := tk } := I1.kept hk
  refine sorted_set (s := { s1 with heap := h', toks := tk }) R2 (I2.ok.hd hc) hc64 fun s' p out c2 ms k g o hp hg' hi' hs hmm hml => ?_
  have e : ms = usort ns := asc_uniq hs usort_asc fun x => by rw [hmm x, usort_mem]; simp
  subst e
  have hln : ((usort ns).map V.int).length ≤ sizeLine := by rw [List.length_map, sizeLine_eq]; omega
  have hn : H1 p = none := I2.hok.fresh hp
  have J : Inv X pins σ (upd H1 p (.lst ((usort ns).map V.int))) { ({ s1 with heap := h', toks := tk } : Shared) with heap := s'.heap, gens := s'.gens, drawn := s'.drawn, toks := s'.toks } :=
    I2.call (ch := []) (Un.laid k hp hn) (I2.hok.laid k hp ⟨hln, out.toList, c2, vals_of_ints hi', hg'⟩) (by rw [g]; exact I2.bare) (fun _ z => nomatch z)
  have es : s' = { s1 with heap := s'.heap, gens := s'.gens, drawn := s'.drawn, toks := s'.toks } := by
    cases s'
    cases s1
    cases o
    rfl
  rw [es]
  exact ⟨.ref p, _, J, rfl, q1 p hn⟩
end
open PpSet in
/-- sorted of a set of truth values -/
theorem sorted_setB {P : Program} {w : World} {A : Around} {E : Value → Shared → Prop} {s : Shared} {a : Addr} {S : Bool → Bool} {n : Nat} {Q : Value → Shared → Prop} (R : SetB w s.heap a S n) (hh : A.handled = none) (hu : A.units + 2 + 64 < cLine)
    (rd2 : ∀ (a : Addr) (h : Heap) (b : Bool), ∃ as, Reads h (.bool b) (.bool b) as ∧ a ∉ as)
    (hQ : ∀ s' p (out : Array Value) (c : Nat), (∀ b o, s.heap.get? b = some o → s'.heap.get? b = some o) → s'.gens = s.gens → s'.os = s.os → s.heap.objs.size ≤ p →
      s'.heap.get? p = some (seqObj "list" out c) → out.toList = ([false, true].filter S).map Value.bool → Q (.ref p) s') :
    wpAny (model P w) A (call (.builtin "sorted") [.ref a]) Q E s := by
  obtain ⟨o, es, ep, t, ho, hex, hd, g, nd, hm, hb, hf, hn, hr, hl⟩ := R
  refine Calls.call_function_entry kind_sorted plain_sorted entry_sorted (args_sorted1 _) ?_
  unfold Builtin.«sorted»
  refine wpAny_bind (m := checkCount "sorted" 1 1 _) (wpAny_pure ?_)
  refine wpAny_bind (collect_set (A := A.in1) hh ⟨o, ho, hex.1, hd⟩ hf hb hr hl fun s1 vs k1 hz g1 o1 pm => ?_)
  -- the values as truth values
  have hvs : ∃ bs : List Bool, vs = bs.map Value.bool ∧ bs.Nodup ∧ ∀ k, k ∈ bs ↔ S k = true := by
    have e1 : ∀ l : List (Int × Value), (∀ e ∈ l, GoodB e) → l.map (·.2) = (l.map keyB).map Value.bool := by
      intro l
      induction l with
      | nil => intro _; rfl
      | cons e l ih =>
        intro hg
        obtain ⟨k, h1, _⟩ := hg e (by simp)
        rw [List.map_cons, List.map_cons, List.map_cons, ih fun e he => hg e (List.mem_cons_of_mem _ he)]
        have : keyB e = k := by unfold keyB; rw [h1]
        rw [this, h1]
    have e2 := e1 es.toList g
    rw [e2] at pm
    let f : Value → Bool := fun v => match v with | .bool k => k | _ => false
    have pf : (vs.map f).Perm (es.toList.map keyB) := by
      have q := pm.map f
      rw [List.map_map] at q
      have e3 : (f ∘ Value.bool) = id := rfl
      rw [e3, List.map_id] at q
      exact q
    refine ⟨vs.map f, ?_, pf.nodup_iff.mpr nd, fun k => by rw [pf.mem_iff, hm k]⟩
    have all : ∀ v ∈ vs, Value.bool (f v) = v := fun v hv => by
      obtain ⟨k, _, e⟩ := List.mem_map.mp (pm.mem_iff.mp hv)
      rw [← e]
    rw [List.map_map]
    have : ∀ l : List Value, (∀ v ∈ l, Value.bool (f v) = v) → l = l.map (Value.bool ∘ f) := by
      intro l
      induction l with
      | nil => intro _; rfl
      | cons v l ih =>
        intro h
        rw [List.map_cons, ← ih fun x hx => h x (List.mem_cons_of_mem _ hx)]
        rw [Function.comp_apply, h v (by simp)]
    exact this vs all
  obtain ⟨bs, rfl, bnd, bmem⟩ := hvs
  have hb2 : bs = [] ∨ bs = [false] ∨ bs = [true] ∨ bs = [false, true] ∨ bs = [true, false] := by
    match bs, bnd with
    | [], _ => exact .inl rfl
    | [false], _ => exact .inr (.inl rfl)
    | [true], _ => exact .inr (.inr (.inl rfl))
    | [false, true], _ => exact .inr (.inr (.inr (.inl rfl)))
    | [true, false], _ => exact .inr (.inr (.inr (.inr rfl)))
    | [false, false], h => simp at h
    | [true, true], h => simp at h
    | x :: y :: z :: r, h => cases x <;> cases y <;> cases z <;> simp at h
  have hlen : bs.length ≤ 2 := by rcases hb2 with h | h | h | h | h <;> rw [h] <;> decide
  refine wpAny_bind (wpAny_newList ?_ (by rw [List.length_map, sizeLine_eq]; omega))
  have hoL : (s1.heap.push (seqObj "list" (bs.map Value.bool).toArray 0)).get? s1.heap.objs.size = some (seqObj "list" (bs.map Value.bool).toArray 0) := Heap.get?_push_size _ rfl
  have eR : PySem.W.EachIs (fun u b => u = Value.bool b) (bs.map Value.bool) bs := by
    clear hb2 bmem bnd pm hoL hlen
    induction bs with
    | nil => exact .nil
    | cons b bs ih => exact .cons rfl ih
  refine wpAny_bind (wpAny_holding (PySem.W.list_sort_data (enc := PyData.bool) hoL eR ?er ?hal ?hk (by rw [sizeLine_eq]; omega) (fun b _ => ?hu) fun out hl2 ho2 => ?fin))
  case er =>
    have gen : ∀ (hp : Heap) (l : List Bool), PySem.W.EachIs (fun v b => ∃ as, Reads hp v (PyData.bool b) as ∧ s1.heap.objs.size ∉ as) (l.map Value.bool) l := by
      intro hp l
      induction l with
      | nil => exact .nil
      | cons b l ih => exact .cons (rd2 _ hp b) ih
    exact gen _ bs
  case hal =>
    intro d hd d' hd'
    obtain ⟨x, _, rfl⟩ := List.mem_map.mp hd
    obtain ⟨y, _, rfl⟩ := List.mem_map.mp hd'
    rfl
  case hk =>
    refine .inr fun d hd => ?_
    obtain ⟨x, _, rfl⟩ := List.mem_map.mp hd
    exact ⟨(fun z => nomatch z), fun xs z => nomatch z⟩
  case hu =>
    have e : (PyData.bool b).depth = 0 ∨ (PyData.bool b).depth = 1 := by first | exact .inl rfl | exact .inr rfl
    have e2 : A.in1.units = A.units ∨ A.in1.units = A.units + 1 := by first | exact .inl rfl | exact .inr rfl
    omega
  case fin =>
    have eo : ∀ (out : List Value) (l : List Bool), PySem.W.EachIs (fun u b => u = Value.bool b) out l → out = l.map Value.bool := by
      intro out l h
      induction h with
      | nil => rfl
      | cons h _ ih => rw [h, ih]; rfl
    have e1 := eo _ _ ho2
    have e2 : bs.mergeSort (PySem.W.dataLe false PyData.bool) = [false, true].filter S := by
      have f : ∀ k, S k = decide (k ∈ bs) := fun k => by
        by_cases h : k ∈ bs
        · rw [decide_eq_true h]; exact (bmem k).mp h
        · rw [decide_eq_false h]
          cases q : S k with
          | false => rfl
          | true => exact absurd ((bmem k).mpr q) h
      have fS : S = fun k => decide (k ∈ bs) := funext f
      rw [fS]
      clear fS f e1 ho2 eR bmem bnd pm hoL hlen
      have tot : PySem.W.TotalLe (PySem.W.dataLe false PyData.bool) := PySem.W.sortLe_total _ _ _
      rw [← show sortBy (PySem.W.dataLe false PyData.bool) bs = bs.mergeSort (PySem.W.dataLe false PyData.bool) from (sortBy_merge tot bs).symm]
      rcases hb2 with h | h | h | h | h <;> subst h <;> decide +kernel
    rw [e2] at e1
    obtain ⟨c, hc⟩ := sortedHeap_at (vs := bs.map Value.bool) (out := out.toArray) hoL
    refine wpAny_pure ⟨_, rfl, hQ _ s1.heap.objs.size out.toArray c (fun b u e => ?_) g1 o1 hz hc (by rw [List.toList_toArray, e1])⟩
    have q := k1 b u e
    have hlt := Heap.lt_size q
    show (sortedHeap (s1.heap.push (seqObj "list" (bs.map Value.bool).toArray 0)) s1.heap.objs.size (bs.map Value.bool) out.toArray).get? b = some u
    rw [sortedHeap_old (Nat.ne_of_lt hlt) (by rw [size_push']; exact Nat.lt_succ_of_lt hlt)]
    exact Heap.get?_push_of_some _ q
section
open PpSet
variable {X : Cx}
theorem bools_of : ∀ {bs : List Bool} {us : List Value}, Vals (bs.map V.bl) us → us = bs.map Value.bool
  | [], _, r => by cases r; rfl
  | b :: bs, _, r => by
    cases r with
    | cons r rr => rw [bools_of rr]; cases r; rfl
theorem vals_bools : ∀ bs : List Bool, Vals (bs.map V.bl) (bs.map Value.bool)
  | [] => .nil
  | b :: bs => .cons rfl (vals_bools bs)
theorem setB_new_at {w : World} {h : Heap} {a : Addr} {bs : List Bool} (ho : h.get? a = some { cls := .type "set", dict := none, data := .set #[] 0 (.fresh 0 0 (!w.params.followText "set-order")) }) : SetB w h a (fun j => decide (j ∈ bs.take 0)) 0 :=
  ⟨_, #[], 0, _, ho, ⟨rfl, rfl, rfl⟩, rfl, (fun e he => by simp at he), (by simp), (fun k => by simp), (by decide), (by rfl), rfl, List.Pairwise.nil, by
    show _ ∨ (!w.params.followText "set-order") = true
    cases w.params.followText "set-order"
    · exact .inr rfl
    · exact .inl rfl⟩
/-- sorted(set(e)), e a list of ints or of truth values -/
def tSSet (K : PySem.W.Frag) (ta : TE) : TE := fun σ H Q => ta σ H fun x H1 => ∃ l : Addr, x = .ref l ∧
  ((∃ ns : List Int, SqL K H1 l (ns.map V.int) ∧ (usort ns).length < 64 ∧ ns.length ≤ 1000 ∧ ∀ p, H1 p = none → Q (.ref p) (upd H1 p (.lst ((usort ns).map V.int)))) ∨
   (∃ bs : List Bool, SqL K H1 l (bs.map V.bl) ∧ bs.length ≤ 1000 ∧ ∀ p, H1 p = none → Q (.ref p) (upd H1 p (.lst ((usB bs).map V.bl)))))
theorem pe_sset {a : Expr} {ta : TE} {p p2 q pos : Pos} (hg : Gl X "sorted") (hm : X.mg "sorted" = none) (hg2 : Gl X "set") (hm2 : X.mg "set" = none) (ha : PE X a ta) (hc : X.calm = true) (hu : X.A.units + 2 + 64 < cLine)
    (na : starEach [a] X.env = (false, eval a X.env) :: starEach [] X.env := by rfl) : PE X (.Call (.Name "sorted" p) [.Call (.Name "set" p2) [a] [] q] [] pos) (tSSet X.K ta) := by
  refine ⟨fun pins s σ H Q I h => ?_⟩
  refine Call_ (ld_blt I hg hm boot_sorted ?_)
  refine PyProof.Rows.callWith_builtin1 (PyProof.Rows.args_cons ?_ rfl) rfl rfl
  refine Call_ (ld_blt I hg2 hm2 boot_set ?_)
  refine PyProof.Rows.callWith_type1 (PyProof.Rows.args_cons (thn (ha.run pins s σ H _ I h) fun v s1 ⟨x, H1, I1, r1, q1⟩ => PyProof.Rows.args_nil ?_) na) na rfl
  obtain ⟨l, rfl, q1⟩ := q1
  cases r1
  have done : ∀ {h' : Heap} {tk : Nat} (k0 : ∀ b o, s1.heap.get? b = some o → h'.get? b = some o) {s' : Shared} {p : Addr} {out : Array Value} {c2 : Nat} {xs : List V} (k : ∀ b o, h'.get? b = some o → s'.heap.get? b = some o) (g : s'.gens = s1.gens) (o : s'.os = s1.os) (hp : h'.objs.size ≤ p)
      (hg' : s'.heap.get? p = some (seqObj "list" out c2)) (hv : Vals xs out.toList) (hln : xs.length ≤ sizeLine) (q : ∀ p, H1 p = none → Q (.ref p) (upd H1 p (.lst xs))), EP X pins σ Q (.ref p) s' := by
    intro h' tk k0 s' p out c2 xs k g o hp hg' hv hln q
    have I2 : Inv X pins σ H1 { s1 with heap := h', toks := tk } := I1.kept k0
    have hn : H1 p = none := I2.hok.fresh hp
    have J : Inv X pins σ (upd H1 p (.lst xs)) { ({ s1 with heap := h', toks := tk } : Shared) with heap := s'.heap, gens := s'.gens, drawn := s'.drawn, toks := s'.toks } :=
      I2.call (ch := []) (Un.laid k hp hn) (I2.hok.laid k hp ⟨hln, out.toList, c2, hv, hg'⟩) (by rw [g]; exact I2.bare) (fun _ z => nomatch z)
    have es : s' = { s1 with heap := s'.heap, gens := s'.gens, drawn := s'.drawn, toks := s'.toks } := by
      cases s'
      cases s1
      cases o
      rfl
    rw [es]
    exact ⟨.ref p, _, J, rfl, q p hn⟩
  rcases q1 with ⟨ns, hq, h64, hl, q1⟩ | ⟨bs, hq, hl, q1⟩
  · obtain ⟨its, r, pl, hz⟩ := I1.list hq
    have hi : IntsAre its.toArray.toList ns := by rw [List.toList_toArray]; exact ints_of_vals r
    refine call_set_Z (I1.ok.hd hc) pl.isList (setZ_int hi (by unfold scanBound; omega)) (fun h e => ⟨0, Nat.le_refl 0, setR_new_at (ns := ns) e⟩) fun h' tk ⟨c, _, R⟩ hk => ?_
    refine PyProof.Rows.args_nil ?_
    have hlen : its.toArray.size = ns.length := by rw [List.size_toArray, ← r.length, List.length_map]
    have R2 : SetR X.w h' s1.heap.objs.size (fun j => decide (j ∈ ns)) c := by
      rw [hlen, List.take_length] at R
      exact R
    have hc64 : c < 64 := by
      obtain ⟨o, es, ep, t, ho, hex, hd, g, nd, hm', hb, hf, hn, hr, hll⟩ := id R2
      have : (es.toList.map keyOf).length ≤ (usort ns).length := nodup_le nd fun x hx => usort_mem.mpr (by simpa using (hm' x).mpr hx)
      rw [List.length_map, Array.length_toList, hn] at this
      omega
    refine sorted_set (s := { s1 with heap := h', toks := tk }) R2 (I1.ok.hd hc) hc64 fun s' p out c2 ms k g o hp hg' hi' hs hmm hml => ?_
    have e : ms = usort ns := asc_uniq hs usort_asc fun x => by rw [hmm x, usort_mem]; simp
    subst e
    exact done (tk := tk) hk k g o hp hg' (vals_of_ints hi') (by rw [List.length_map, sizeLine_eq]; omega) q1
  · obtain ⟨its, r, pl, hz⟩ := I1.list hq
    have hi : its.toArray.toList = bs.map Value.bool := by rw [List.toList_toArray]; exact bools_of r
    refine call_set_Z (I1.ok.hd hc) pl.isList (setZ_bool hi (by unfold scanBound; omega)) (fun h e => ⟨0, Nat.le_refl 0, setB_new_at (bs := bs) e⟩) fun h' tk ⟨c, _, R⟩ hk => ?_
    refine PyProof.Rows.args_nil ?_
    have hlen : its.toArray.size = bs.length := by rw [List.size_toArray, ← r.length, List.length_map]
    have R2 : SetB X.w h' s1.heap.objs.size (fun j => decide (j ∈ bs)) c := by
      rw [hlen, List.take_length] at R
      exact R
    refine sorted_setB (s := { s1 with heap := h', toks := tk }) R2 (I1.ok.hd hc) hu (fun a h b => ⟨[], .bool b, by simp⟩) fun s' p out c2 k g o hp hg' hv => ?_
    have e : [false, true].filter (fun j => decide (j ∈ bs)) = usB bs := by
      unfold usB
      congr 1
      funext b
      rw [List.contains_eq_mem]
    rw [e] at hv
    refine done (tk := tk) (xs := (usB bs).map V.bl) hk k g o hp hg' (by rw [hv]; exact vals_bools _) ?_ q1
    have : (usB bs).length ≤ 2 := by unfold usB; exact List.length_filter_le _ _
    rw [List.length_map, sizeLine_eq]
    omega
variable {G : Gx} {W : WX} {n : Nat}
theorem e_sortedSet {k : Nat} {e : Expr} {ie : Ex} {p p2 q pos : Pos} (B : Bx X W k) (hg : Gl X "sorted") (hm : X.mg "sorted" = none) (hg2 : Gl X "set") (hm2 : X.mg "set" = none) (ha : PE X e (tE X.K G W n ie)) (na : starEach [e] X.env = (false, eval e X.env) :: starEach [] X.env := by rfl) :
    PE X (.Call (.Name "sorted" p) [.Call (.Name "set" p2) [e] [] q] [] pos) (tE X.K G W n (.bi .sortedSet (.cons ie .nil))) := by
  refine (pe_sset hg hm hg2 hm2 ha B.calm (by have := B.room.un; omega) na).imp fun σ H Q ⟨fr, μ, O, ρ, S, rel, h⟩ => ?_
  refine ⟨fr, μ, O, ρ, S, rel, ?_⟩
  have h : End X.K G W (Rp X.K G) fr μ O H σ ρ (((ev G n ie ρ S).bind fun x S1 => Rs.ok [x] S1).bind fun ds S1 => Rs.of (biO .sortedSet ds) S1) Q := h
  have h : End X.K G W (Rp X.K G) fr μ O H σ ρ ((ev G n ie ρ S).bind fun x S1 => Rs.of (biO .sortedSet [x]) S1) Q := by
    cases e0 : ev G n ie ρ S <;> (rw [e0] at h; exact h)
  refine (End.bind (RR := Rp X.K G) h).mono fun x H1 ⟨d, S1, μ1, s1, rel1, r1, h1⟩ => ?_
  obtain ⟨d2, e2, h1⟩ := End.of_some h1
  cases d <;> try (cases e2; done)
  rename_i xs
  have e2 : sortedSetO xs = some d2 := e2
  obtain ⟨l, vs, rfl, hq, qs⟩ := r1.lst_of
  refine ⟨l, rfl, ?_⟩
  unfold sortedSetO at e2
  cases ei : intL xs with
  | some is =>
    rw [ei] at e2
    simp only at e2
    split at e2
    · rename_i hs
      cases e2
      rw [Bool.and_eq_true, decide_eq_true_eq, decide_eq_true_eq] at hs
      have ev' := intL_map qs ei
      rw [ev'.1] at hq
      refine .inl ⟨is, hq, hs.1, hs.2, fun p hp => End.fin h1 rel1 (same_upd hp) (Rp.newL rel1.nt hp ?_)⟩
      generalize usort is = us
      induction us with
      | nil => exact .nil
      | cons u us ih => exact .cons (.int u) ih
    · cases e2
  | none =>
    rw [ei] at e2
    simp only at e2
    cases eb : boolL xs with
    | none => rw [eb] at e2; cases e2
    | some bs =>
      rw [eb] at e2
      simp only at e2
      split at e2
      · rename_i hs
        cases e2
        have ev' := boolL_map qs eb
        rw [ev'.1] at hq
        refine .inr ⟨bs, hq, of_decide_eq_true hs, fun p hp => End.fin h1 rel1 (same_upd hp) (Rp.newL rel1.nt hp ?_)⟩
        generalize usB bs = us
        induction us with
        | nil => exact .nil
        | cons u us ih => exact .cons (.bl u) ih
      · cases e2
end
end Iv
set_option maxHeartbeats 2000000
/-! Iv23: calls of plain defs from where lambdas live; calls without arguments; the end. -/
namespace Iv
open PySem PySem.Spec PyProof.Rows L2
section
variable {X : Cx} {G : Gx} {W : WX} {n k j : Nat} {pins : List (Addr × Obj)} {σ : L2.St} {H : Hp} {s : Shared} {Q : VK}
theorem run_emp {f : Addr} {fd : FuncData} {ps : List Str} {id : Nat} (B : Bx X W k) (F : FnS X.prog X.w X.K X.mg X.base G.toGs Emp j f fd ps n id) (hj : j ≤ k) (hb : Binds X.K fd ps []) (I : Inv X pins σ H s) {fr : Fr} {μ O : List Addr} {ρ : Env} {S : Store} {ds : List D} {vs : List V} {us : List Value}
    (rel : Rel X.K G fr μ O H σ ρ S) (rd : Rps X.K G (NN fr.M O μ) μ H vs ds) (nc : noClos ds = true) (rv : Vals vs us) (h : End X.K G W (Rp X.K G) fr μ O H σ ρ (callF G.Φ G.Λ G.nm G.F n (.fn id) ds S) Q) :
    wpAny (model X.prog X.w) X.A (call (.ref f) us) (EP X pins σ Q) X.xe s := by
  have prom : spF X.K (Gx.emp G.toGs) n id vs H Q (L2.WE W σ) := by
    obtain ⟨μ', M', S', ds', rs, rp, hE⟩ := call_end rel rd h
    refine ⟨μ, fun a => fr.M a ∨ a ∈ O, S, ds, RelS.regs (emp_eq G) ⟨Step.refl _ _ _, fun a z => rel.nl a (z.elim .inl fun z => .inr (.inl z)), rel.st.weak fun b z => (nn_call b).mp z, rel.tabs⟩, (rd.weak fun b z => (nn_call b).mp z).regs (emp_eq G) nc, ?_⟩
    show EndC X.K (Gx.emp G.toGs) ⟨H, μ, fun a => fr.M a ∨ a ∈ O⟩ (callF G.Φ G.Λ G.nm G.F n (.fn id) ds S) Q (L2.WE W σ)
    cases e : callF G.Φ G.Λ G.nm G.F n (.fn id) ds S with
    | bad => rw [e] at h; exact h
    | exc c S1 =>
      rw [e] at h
      exact fun dd H' μ' xd rs => h dd H' μ' xd (rel.next rs.step ((rs.st.regs (emp_eq G).symm).weak fun b z => (nn_call b).mpr z) rs.tabs).relS
    | ok d S1 =>
      rw [e] at h
      exact fun v H' μ' rs rv => h v H' μ' rs.step (rel.next rs.step ((rs.st.regs (emp_eq G).symm).weak fun b z => (nn_call b).mpr z) rs.tabs) ((rv.up (emp_eq G).symm (fun a k e => nomatch e)).weak fun b z => (nn_call b).mpr z)
  exact run_fnS' (G := Gx.emp G.toGs) (E := L2.WE W) (F.mono hj) rfl B.room hb (L2N.passAt B.tk σ) I (Emp.at (show Emp (Gx.emp G.toGs) from rfl)) rv prom
variable {id : Nat} {pos p : Pos} {e : Expr} {es : List Expr} {ies : Exs} {f : Addr} {fd : FuncData} {ps : List Str} {x : Str}
theorem e_callE (B : Bx X W k) (F : FnS X.prog X.w X.K X.mg X.base G.toGs Emp j f fd ps n id) (hj : j ≤ k) (hg : Gl X x) (hm : X.mg x = some (.ref f)) (hk : PySem.W.keepIn X.K (.ref f) = true) (hb : Binds X.K fd ps [])
    (ha : PA X (e :: es) (tA X.K G W n ies)) (hdb : (x == ("__debug__" : Str)) = false := by decide) (he : starEach (e :: es) X.env = (false, eval e X.env) :: starEach es X.env := by rfl) (hpl : (backTo pos (starEach es X.env)).any (·.1) = false := by rfl) :
    PE X (.Call (.Name x p) (e :: es) [] pos) (tE X.K G W n (.callE id ies)) := by
  refine ⟨fun pins s σ H Q I ⟨fr, μ, O, ρ, S, rel, h⟩ => ?_⟩
  refine wpAny_Call_Name_kw (ld_glob I hg hm ?_ hdb)
  refine PySem.W.callWith_K (h₀ := X.base) I.ok.mod.kin hk (thn (ha.run pos pins s σ H _ I ⟨fr, μ, O, ρ, S, rel, (End.bind (RR := Rps X.K G) h)⟩) fun us s1 ⟨vs, H1, I1, r, ds, S1, μ1, s1, rel1, r1, h1⟩ => ⟨I1.kIn, ?_⟩) he hpl
  by_cases nc : noClos ds = true
  · rw [if_pos nc] at h1
    exact run_emp B F hj hb I1 rel1 r1 nc r h1
  · rw [if_neg nc] at h1
    exact h1.elim
/-- .. without arguments, from where lambdas live -/
theorem e_callE0 (B : Bx X W k) (F : FnS X.prog X.w X.K X.mg X.base G.toGs Emp j f fd ps n id) (hj : j ≤ k) (hg : Gl X x) (hm : X.mg x = some (.ref f)) (hk : PySem.W.keepIn X.K (.ref f) = true) (hb : Binds X.K fd ps []) (hdb : (x == ("__debug__" : Str)) = false := by decide) :
    PE X (.Call (.Name x p) [] [] pos) (tE X.K G W n (.callE id .nil)) := by
  refine ⟨fun pins s σ H Q I ⟨fr, μ, O, ρ, S, rel, h⟩ => ?_⟩
  refine wpAny_Call_Name_kw (ld_glob I hg hm ?_ hdb)
  exact PySem.W.callWith_K0 I.kIn hk (run_emp B F hj hb I rel .nil rfl .nil h)
theorem e_call0 {R : Gx → Prop} (B : Bx X W k) (live : LiveX G X) (F : FnS X.prog X.w X.K X.mg X.base G.toGs R j f fd ps n id) (hR : R G) (hj : j ≤ k) (hg : Gl X x) (hm : X.mg x = some (.ref f)) (hk : PySem.W.keepIn X.K (.ref f) = true) (hb : Binds X.K fd ps []) (hdb : (x == ("__debug__" : Str)) = false := by decide) :
    PE X (.Call (.Name x p) [] [] pos) (tE X.K G W n (.call id .nil)) := by
  refine ⟨fun pins s σ H Q I ⟨fr, μ, O, ρ, S, rel, h⟩ => ?_⟩
  refine wpAny_Call_Name_kw (ld_glob I hg hm ?_ hdb)
  exact PySem.W.callWith_K0 I.kIn hk (run_fnS' (E := L2.WE W) (F.mono hj) hR B.room hb (L2N.passAt B.tk σ) I (live.at I) .nil (call_end rel .nil h))
end
/-! ### the facts of a law, by a Hook -/
abbrev A (K : PySem.W.Frag) (x : Str) : Addr := He.fAd K (x, none)
def fdA (K : PySem.W.Frag) (x : Str) (st : Stmt) : FuncData := match K.lookup (A K x) with
  | some ⟨_, _, .func fd, _⟩ => fd
  | _ => PySem.W.fnOf x x (defArgs st) (defBody st) (defScope st) .none .none .none .none none .none .none
def dd (x q : Str) (st : Stmt) : He.DefD := ⟨(x, none), q, q, defArgs st, defBody st, defScope st, [], []⟩
structure Hy (fa : List He.Fa) (fn : List He.DefD) (tf : List He.Defn) (ex : PySem.W.Frag → Bool) (K : PySem.W.Frag) (mg : Str → Option Value) (base : Heap) : Prop where
  X : K.In base
  G : base.Ns mainGlobals mg
  c : He.SaysD fa fn K
  more : ex K = true
  hd : ∀ p ∈ tf, PySem.W.codeHdIn K (He.cT K p).1 (He.cT K p).2 = true
  TB : ∀ p ∈ tf, LamX.TabB base mg (He.cT K p).1 (He.cT K p).2
/-- the tables of code objects, with their lambdas' name -/
def tabL (K : PySem.W.Frag) (tf : List He.Defn) : List (Addr × Str) := tf.map fun p => ((He.cT K p).2, (envOfC p.1 ⟨.function, [], false, false, []⟩ 0 0 .none).qual ++ "<lambda>")
def excB (K : PySem.W.Frag) (D : Addr) : Bool := decide (PySem.W.findIn K (.ref D) "__getattribute__" = some (some (.builtin "BaseException.__getattribute__"))) && (decide (PySem.W.findIn K (.ref D) "__getattr__" = some none) && (decide (PySem.W.subIn K (.ref D) (.type "BaseException") = some true) && (PySem.W.hasDictIn K D &&
  (decide (PySem.W.findIn K (.ref D) "__class__" = some (some (.builtin "object.__class__"))) && (decide (PySem.W.specialIn K (.builtin "object.__class__") "__get__" = some (some (.builtin "getset_descriptor.__get__"))) && (decide (PySem.W.takesIn K (.builtin "object.__class__") = some true) && decide (PySem.W.mroIn K D (.type "object") = some true)))))))
theorem excB_ok {K : PySem.W.Frag} {D : Addr} (h : excB K D = true) : ExcC K D := by
  obtain ⟨h1, h⟩ := He.ba h
  obtain ⟨h2, h⟩ := He.ba h
  obtain ⟨h3, h⟩ := He.ba h
  obtain ⟨h4, h⟩ := He.ba h
  obtain ⟨h5, h⟩ := He.ba h
  obtain ⟨h6, h⟩ := He.ba h
  obtain ⟨h7, h8⟩ := He.ba h
  exact ⟨of_decide_eq_true h1, of_decide_eq_true h2, of_decide_eq_true h3, h4, of_decide_eq_true h5, of_decide_eq_true h6, of_decide_eq_true h7, of_decide_eq_true h8⟩
def noLst (K : PySem.W.Frag) : Bool := K.all fun q => !(q.2.cls == .type "list")
theorem noLst_ok {K : PySem.W.Frag} (h : noLst K = true) {a : Addr} {o : Obj} (lk : K.lookup a = some o) : o.cls ≠ .type "list" := fun e => by
  have z := List.all_eq_true.mp h _ (He.lookup_mem lk)
  have z : (!(o.cls == Value.type "list")) = true := z
  rw [e] at z
  simp at z
section
variable {fa : List He.Fa} {fn : List He.DefD} {tf : List He.Defn} {ex : PySem.W.Frag → Bool} {K : PySem.W.Frag} {mg : Str → Option Value} {base : Heap}
theorem Hy.rec_ (h : Hy fa fn tf ex K mg base) {x q : Str} {st : Stmt} (i : Nat) (e : fn[i]? = some (dd x q st)) :
    ∃ (oc : Value) (od : Option Addr) (kV doc pm : Value) (an : Option Addr) (cdv ct : Value) (osl : Array (Option Value)),
      fdA K x st = PySem.W.fnOf q q (defArgs st) (defBody st) (defScope st) .none kV doc pm an cdv ct ∧ K.lookup (A K x) = some ⟨oc, od, .func (fdA K x st), osl⟩ ∧ PySem.W.codeIn K cdv q = true ∧ PySem.W.keepIn K (.ref (A K x)) = true := by
  obtain ⟨fd, F⟩ := h.c.def_ i e
  obtain ⟨oc, od, dV, kV, doc, pm, an, cdv, ct, osl, rfl, lk, hcd, hD, hK⟩ := F.ex
  have kp := F.kp
  rcases hD with ⟨_, rfl⟩ | ⟨z, _⟩
  · have lk : K.lookup (A K x) = some ⟨oc, od, .func (PySem.W.fnOf q q (defArgs st) (defBody st) (defScope st) .none kV doc pm an cdv ct), osl⟩ := lk
    have ef : fdA K x st = PySem.W.fnOf q q (defArgs st) (defBody st) (defScope st) .none kV doc pm an cdv ct := by unfold fdA; rw [lk]
    exact ⟨oc, od, kV, doc, pm, an, cdv, ct, osl, ef, by rw [ef]; exact lk, hcd, kp⟩
  · exact absurd rfl z
theorem Hy.fun_ (h : Hy fa fn tf ex K mg base) {x q : Str} {st : Stmt} (i : Nat) (e : fn[i]? = some (dd x q st)) : Fun K q q st (A K x) (fdA K x st) := by
  obtain ⟨oc, od, kV, doc, pm, an, cdv, ct, osl, e1, e2, e3, kp⟩ := h.rec_ i e
  exact ⟨⟨oc, od, kV, doc, pm, an, cdv, ct, osl, e1, e2, e3⟩, kp⟩
theorem Hy.code (h : Hy fa fn tf ex K mg base) {x q : Str} {st : Stmt} (i : Nat) (e : fn[i]? = some (dd x q st)) : (fdA K x st).code = .ref (He.cT K (x, none)).1 := by
  obtain ⟨oc, od, kV, doc, pm, an, cdv, ct, osl, e1, e2, e3, kp⟩ := h.rec_ i e
  obtain ⟨c, hc⟩ := He.codeIn_ref e3
  have e4 : (fdA K x st).code = .ref c := by rw [e1]; exact hc
  rw [e4]
  show _ = Value.ref (He.codeOf K (x, none))
  rw [He.codeOf_eq e2 e4]
theorem tab_u (h : (tf.map fun p => (He.cT K p).2).Nodup) {x : He.Defn} (hx : x ∈ tf) {p : Addr × Str} (hp : p ∈ tabL K tf) (e : p.1 = (He.cT K x).2) : p.2 = (envOfC x.1 ⟨.function, [], false, false, []⟩ 0 0 .none).qual ++ "<lambda>" := by
  obtain ⟨y, hy, rfl⟩ := List.mem_map.mp hp
  have key : ∀ (l : List He.Defn), (l.map fun p => (He.cT K p).2).Nodup → ∀ a ∈ l, ∀ b ∈ l, (He.cT K a).2 = (He.cT K b).2 → a = b := by
    intro l
    induction l with
    | nil => intro _ a ha; cases ha
    | cons q r ih =>
      intro nd a ha b hb e
      rw [List.map_cons, List.nodup_cons] at nd
      rcases List.mem_cons.mp ha with ea | ha
      · rcases List.mem_cons.mp hb with eb | hb
        · rw [ea, eb]
        · exact absurd (List.mem_map.mpr ⟨b, hb, by rw [← e, ea]⟩) nd.1
      · rcases List.mem_cons.mp hb with eb | hb
        · exact absurd (List.mem_map.mpr ⟨a, ha, by rw [e, eb]⟩) nd.1
        · exact ih nd.2 a ha b hb e
  rw [key tf h y hy x hx e]
/-- the end: the law's def as it is promised, and what the evaluator says of it -/
theorem lawAt {l : PySem.W.OpenLaw} {w : World} {fa' : Addr} {h : Heap} {G0 : Gs} {st : Stmt} {k NN id : Nat} (c : He.SaysX fa fn [] tf ex w h K) (KX : K.In h) (G : h.Ns mainGlobals mg) (hmg : mg "law" = some (.ref fa')) (i j : Nat) (hi : fn[i]? = some (dd "law" "law" st)) (hj : fa[j]? = some (.glo "law"))
    (hb : ∀ (kV doc pm : Value) (an : Option Addr) (cdv ct : Value) (us : List Value), us.length = ["script"].length → bindArgs (PySem.W.fnOf "law" "law" (defArgs st) (defBody st) (defScope st) .none kV doc pm an cdv ct) ⟨us, []⟩ = pure ((["script"] : List Str).zip us))
    (hT : ∀ p ∈ G0.T, ∃ q ∈ tf, (He.cT K q).2 = p.1) (hL : noLst K = true)
    (run : ∀ base : Heap, Hy fa fn tf ex K mg base → FnS l.prog w K mg base G0 Emp k (A K "law") (fdA K "law" st) ["script"] NN id)
    (pure_ : ∀ ns : List Int, ns.length ≤ 63 → (∀ z ∈ ns, Builtin.Int.intBits z ≤ 1048576) → ∃ S', callF G0.Φ G0.Λ G0.nm G0.F NN (.fn id) [.lst (ns.map .int)] [] = .ok (.bl true) S') :
    ∃ K : PySem.W.Frag, K.In h ∧ LamX.LawAtS l w K (L2N.CX l.prog w) k 63 "script" mg fa' h := by
  have cD : He.SaysD fa fn K := c.t.d
  have e := hmg.symm.trans (He.glo_ok KX G (cD.fact j hj))
  have e : fa' = A K "law" := by cases e; rfl
  subst e
  have hy : ∀ base : Heap, K.In base → base.Ns mainGlobals mg → (∀ p ∈ tf.map (He.cT K), LamX.TabB base mg p.1 p.2) → Hy fa fn tf ex K mg base := fun base X1 G1 TB => ⟨X1, G1, cD, c.more, c.hd, fun p hp => TB _ (List.mem_map_of_mem hp)⟩
  refine ⟨K, KX, fdA K "law" st, tf.map (He.cT K), fun vs H Q E => spF K (Gx.emp G0) NN id vs H Q E, ?_, ?_, ?_, ?_, ?_, ?_⟩
  · intro p hp
    obtain ⟨q, hq, rfl⟩ := List.mem_map.mp hp
    exact c.empty q hq
  · intro p hp
    obtain ⟨q, hq, rfl⟩ := List.mem_map.mp hp
    exact c.out q hq
  · intro p hp
    obtain ⟨q, hq, rfl⟩ := List.mem_map.mp hp
    exact PySem.W.codeHd_of_K KX (c.hd q hq)
  · intro s u
    obtain ⟨fd, F⟩ := cD.def_ i hi
    obtain ⟨oc, od, dV, kV, doc, pm, an, cdv, ct, osl, rfl, lk, hcd, hD, hK⟩ := F.ex
    rcases hD with ⟨_, rfl⟩ | ⟨z, _⟩
    · have lk : K.lookup (A K "law") = some ⟨oc, od, .func (PySem.W.fnOf "law" "law" (defArgs st) (defBody st) (defScope st) .none kV doc pm an cdv ct), osl⟩ := lk
      have ef : fdA K "law" st = PySem.W.fnOf "law" "law" (defArgs st) (defBody st) (defScope st) .none kV doc pm an cdv ct := by unfold fdA; rw [lk]
      rw [ef]
      exact .of_eq (hb kV doc pm an cdv ct [u] rfl)
    · exact absurd rfl z
  · intro H a ns hl hbits hTb hS
    obtain ⟨S', hp⟩ := pure_ ns hl hbits
    have hR : ∀ (N : Addr → Prop) (xs : List Int), Rps K (Gx.emp G0) N [] H (xs.map V.int) (xs.map D.int) := by
      intro N xs
      induction xs with
      | nil => exact .nil
      | cons x xs ih => exact .cons (.int x) ih
    have tb : LamX.Tabs G0.T H := fun p hp => by
      obtain ⟨q, hq, e⟩ := hT p hp
      rw [← e]
      exact LamX.TabS.nil (hTb _ (List.mem_map_of_mem hq))
    refine ⟨[], fun _ => False, [], [.lst (ns.map .int)], ⟨Step.refl _ _ _, fun a z => z.elim, ⟨rfl, List.nodup_nil, fun n a o e => by simp at e⟩, tb⟩, .cons ?_ .nil, ?_⟩
    · rcases hS with hS | ⟨o, its, m, lk, hc, _⟩
      · exact .lst hS (fun z => z.elim (fun y => y) fun z => z.elim (fun z => nomatch z) fun z => nomatch z) (hR _ ns)
      · exact absurd hc (noLst_ok hL lk)
    · show EndC K (Gx.emp G0) _ (callF G0.Φ G0.Λ G0.nm G0.F NN (.fn id) _ _) _ _
      rw [hp]
      intro v H' μ' rs rv
      cases rv
      rfl
  · intro base X1 G1 TB
    have F := run base (hy base X1 G1 TB)
    exact ⟨fun vs H Q E h => F.len (Gx.emp G0) rfl vs H Q E h, fun A outer s H args us vs Q E hr e0 hb rv hsp => F.run (Gx.emp G0) rfl rfl A outer s H args us vs Q E hr e0 (Emp.at (show Emp (Gx.emp G0) from rfl)) hb rv hsp⟩
end
end Iv
set_option maxHeartbeats 2000000
/-! Iv24: two names at once, one of them a new list of the frame. -/
namespace Iv
open PySem PySem.Spec PyProof.Rows L2
section
variable {K : PySem.W.Frag} {G : Gx} {fr : Fr} {μ O : List Addr} {H : Hp} {σ : L2.St} {ρ : Env} {S : Store}
/-- a list that the frame holds already, put in a slot -/
theorem Rel.putO2 {i : Nat} {p : Addr} {xs : List V} {ds : List D} (rel : Rel K G fr μ O H σ ρ S) (hp : p ∈ O) (hH : H p = some (.lst xs)) (r : Rps K G (NN fr.M O μ) μ H xs ds) (old : ∀ (j : Nat) (es : List Iv.D), ρ[j]? = some (Sl.own es) → σ[j]? ≠ some (some (V.ref p))) :
    Rel K G fr μ O H (σ.set i (some (.ref p))) (ρ.set i (.own ds)) S := by
  refine ⟨rel.step, rel.mtr, rel.oth, rel.st, rel.tabs, by rw [List.length_set, List.length_set, rel.len], fun j s e => ?_, fun j k a fs gs e1 e2 e3 e4 => ?_⟩
  · rw [List.getElem?_set] at e ⊢
    by_cases hj : i = j
    · subst hj
      rw [if_pos rfl] at e ⊢
      by_cases hl : i < ρ.length
      · rw [if_pos hl] at e
        rw [if_pos (rel.len ▸ hl)]
        cases e
        exact ⟨p, xs, rfl, hp, hH, r⟩
      · rw [if_neg hl] at e; cases e
    · rw [if_neg hj] at e ⊢
      exact rel.env j s e
  · have g : ∀ (j : Nat) (fs : List D), (ρ.set i (Sl.own ds))[j]? = some (.own fs) → (σ.set i (some (.ref p)))[j]? = some (some (V.ref a)) → (j = i ∧ a = p) ∨ (j ≠ i ∧ ρ[j]? = some (.own fs) ∧ σ[j]? = some (some (.ref a)) ∧ a ≠ p) := fun j fs e1 e2 => by
      rw [List.getElem?_set] at e1 e2
      by_cases hj : i = j
      · subst hj
        rw [if_pos rfl] at e1 e2
        by_cases hl : i < ρ.length
        · rw [if_pos (rel.len ▸ hl)] at e2
          cases e2
          exact .inl ⟨rfl, rfl⟩
        · rw [if_neg hl] at e1; cases e1
      · rw [if_neg hj] at e1 e2
        refine .inr ⟨fun z => hj z.symm, e1, e2, fun z => ?_⟩
        subst z
        exact old j fs e1 e2
    rcases g j fs e1 e3 with ⟨h1, h2⟩ | ⟨h1, h2, h3, h4⟩ <;> rcases g k gs e2 e4 with ⟨k1, k2⟩ | ⟨k1, k2, k3, k4⟩
    · rw [h1, k1]
    · exact absurd h2 k4
    · exact absurd k2 h4
    · exact rel.own1 j k a fs gs h2 k2 h3 k3
end
section
variable {X : Cx} {G : Gx} {W : WX} {n : Nat} {pos : Pos} {a b : Expr} {ia ib : Ex} {es : List Expr} {ies : Exs}
theorem s_ownp {i j : Nat} {x y : Str} {px py pt lp : Pos} {kt k2 pt2} (hc : X.calm = true) (hN : X.N.Nodup) (hi : X.N[i]? = some x) (hj : X.N[j]? = some y) (hij : i ≠ j)
    (hx : X.env.scope.names.lookup x = some .local) (hy : X.env.scope.names.lookup y = some .local) (ha : PA X es (tA X.K G W n ies)) (hb : PE X b (tE X.K G W n ib))
    (hw : swappedStores [.Tuple [.Name x px, .Name y py] kt pt] (.Tuple [.List es lp, b] k2 pt2) X.env = pure (some [x, y]))
    (hs : swapsWithSole [.Tuple [.Name x px, .Name y py] kt pt] (.Tuple [.List es lp, b] k2 pt2) pos.line X.env = pure false := by rfl)
    (h1 : starEach [.List es lp, b] X.env = (false, eval (.List es lp) X.env) :: starEach [b] X.env := by rfl) (h2 : starEach [b] X.env = (false, eval b X.env) :: starEach [] X.env := by rfl) :
    PS X (.Assign [.Tuple [.Name x px, .Name y py] kt pt] (.Tuple [.List es lp, b] k2 pt2) pos) (tS X.K G W n (.ownp i j ies ib)) :=
  (ps_par hc hN hi hj hij hx hy (pa_cons (pe_lst ha) (pa_cons hb pa_nil h2) h1) hw hs).imp fun D σ H ⟨fr, μ, O, ρ, S, rel, h⟩ => by
    have h : EndS X.K G W fr μ O H ((evs G n ies ρ S).bind fun ds S1 => if ds.length ≤ big then (ev G n ib ρ S1).bind fun y S2 => .ok (.next ((ρ.set i (.own ds)).set j (.val y))) S2 else .bad) D := h
    refine ⟨fr, μ, O, ρ, S, rel, (EndS.bindE' (RR := Rps X.K G) h).mono fun vs H1 ⟨ds, S1, μ1, s1, rel1, r1, h1⟩ => ?_⟩
    split at h1
    · rename_i hl
      refine ⟨by rw [r1.length, ← big_eq]; exact hl, fun p hp => ?_⟩
      have old : ∀ (j : Nat) (es : List Iv.D), ρ[j]? = some (Sl.own es) → σ[j]? ≠ some (some (V.ref p)) := fun j es e z => by
        obtain ⟨a, ys, e1, _, e2, _⟩ := rel1.env j _ e
        rw [z] at e1
        cases e1
        rw [hp] at e2
        cases e2
      have rel2 := rel1.newO (xs := vs) hp
      have st : Step μ1 O H1 μ1 (p :: O) (upd H1 p (.lst vs)) := (Step.same (O := []) (same_upd hp)).grow hp
      have r2 : Rps X.K G (NN fr.M (p :: O) μ1) μ1 (upd H1 p (.lst vs)) vs ds := r1.imp (fun b u e n _ => ⟨same_upd hp b u e, fun z => by
        rcases z with z | z | z
        · exact n (.inl z)
        · rcases List.mem_cons.mp z with z | z
          · rw [z, hp] at e; cases e
          · exact n (.inr (.inl z))
        · exact n (.inr (.inr z))⟩) fun _ _ e => e
      have nm : p ∉ μ1 := fun z => by obtain ⟨u, e, _⟩ := rel1.st.there z; rw [hp] at e; cases e
      refine ⟨fr, μ1, p :: O, ρ, S1, rel2, ?_⟩
      have h2 := EndS.later st h1
      cases e : ev G n ib ρ S1 with
      | bad => rw [e] at h2; exact h2.elim
      | exc c S2 => rw [e] at h2; exact fun dd H3 μ3 xd rs => h2 σ dd H3 μ3 xd rs
      | ok d S2 =>
        rw [e] at h2
        intro v H3 μ3 s3 rel3 rv
        have e3 : H3 p = some (.lst vs) := s3.ext p _ upd_same nm (by simp) (fun ps z => by cases z)
        exact ⟨_, _, rfl, EndS.nx (h2 : EndS X.K G W fr μ1 (p :: O) (upd H1 p (.lst vs)) (.ok (.next ((ρ.set i (.own ds)).set j (.val d))) S2) D) s3.more ((rel3.putO2 (i := i) (by simp) e3 (r2.step s3.more) old).put rv)⟩
    · exact h1.elim
theorem s_ownq {i j : Nat} {x y : Str} {px py pt lp : Pos} {kt k2 pt2} (hc : X.calm = true) (hN : X.N.Nodup) (hi : X.N[i]? = some x) (hj : X.N[j]? = some y) (hij : i ≠ j)
    (hx : X.env.scope.names.lookup x = some .local) (hy : X.env.scope.names.lookup y = some .local) (hb : PE X a (tE X.K G W n ia)) (ha : PA X es (tA X.K G W n ies))
    (hw : swappedStores [.Tuple [.Name x px, .Name y py] kt pt] (.Tuple [a, .List es lp] k2 pt2) X.env = pure (some [x, y]))
    (hs : swapsWithSole [.Tuple [.Name x px, .Name y py] kt pt] (.Tuple [a, .List es lp] k2 pt2) pos.line X.env = pure false := by rfl)
    (h1 : starEach [a, .List es lp] X.env = (false, eval a X.env) :: starEach [.List es lp] X.env := by rfl) (h2 : starEach [.List es lp] X.env = (false, eval (.List es lp) X.env) :: starEach [] X.env := by rfl) :
    PS X (.Assign [.Tuple [.Name x px, .Name y py] kt pt] (.Tuple [a, .List es lp] k2 pt2) pos) (tS X.K G W n (.ownq i j ia ies)) :=
  (ps_par hc hN hi hj hij hx hy (pa_cons hb (pa_cons (pe_lst ha) pa_nil h2) h1) hw hs).imp fun D σ H ⟨fr, μ, O, ρ, S, rel, h⟩ => by
    have h : EndS X.K G W fr μ O H ((ev G n ia ρ S).bind fun x S1 => (evs G n ies ρ S1).bind fun ds S2 => if ds.length ≤ big then .ok (.next ((ρ.set i (.val x)).set j (.own ds))) S2 else .bad) D := h
    refine ⟨fr, μ, O, ρ, S, rel, (EndS.bindE' (RR := Rp X.K G) h).mono fun v H1 ⟨d, S1, μ1, s1, rel1, r1, h1⟩ => ?_⟩
    refine ⟨fr, μ1, O, ρ, S1, rel1, (EndS.bindE' (RR := Rps X.K G) h1).mono fun vs H2 ⟨ds, S2, μ2, s2, rel2, r2, h2⟩ => ?_⟩
    split at h2
    · rename_i hl
      refine ⟨by rw [r2.length, ← big_eq]; exact hl, fun p hp => ⟨_, _, rfl, EndS.nx h2 ((Step.same (O := []) (same_upd hp)).grow hp) ?_⟩⟩
      exact (rel2.put (i := i) (r1.step s2)).putO hp r2
    · exact h2.elim
end
end Iv
set_option maxHeartbeats 3200000
/-! Iv25: small sets of keys that lie in the heap (tuples of tuples ..): what adding does. -/
namespace Iv
open PySem PySem.Spec PyProof.Rows L2
/-- keys by their addresses -/
structure KeyS (P : Program) (w : World) (T : Type) [DecidableEq T] where
  lies : Heap → T → Addr → Prop
  num : T → Int
  cost : T → Nat
  same : ∀ {A : Around} {E : Value → Shared → Prop} {s : Shared} {x y : T} {a b : Addr} {Q : Bool → Shared → Prop}, A.units + 8 < cLine → lies s.heap x a → lies s.heap y b → Q (decide (x = y)) s → wpAny (model P w) A (eqBool (.ref a) (.ref b)) Q E s
  hsh : ∀ {A : Around} {E : Value → Shared → Prop} {s : Shared} {x : T} {a : Addr} {Q : Int → Shared → Prop}, A.units + 8 < cLine → lies s.heap x a → Q (num x) { s with toks := s.toks + cost x } → wpAny (model P w) A (pyHash (.ref a)) Q E s
  quiet : ∀ {A : Around} {E : Value → Shared → Prop} {s : Shared} {x : T} {a : Addr} {Q : Bool → Shared → Prop}, lies s.heap x a → Q true s → wpAny (model P w) A (eqIsQuiet 8 (.ref a)) Q E s
  mute : ∀ {A : Around} {E : Value → Shared → Prop} {s : Shared} {x : T} {a : Addr} {Q : Bool → Shared → Prop}, lies s.heap x a → Q false s → wpAny (model P w) A (ofAClassStatement 8 (.ref a)) Q E s
  byv : ∀ {A : Around} {E : Value → Shared → Prop} {s : Shared} {x : T} {a : Addr} {Q : Bool → Shared → Prop}, lies s.heap x a → Q true s → wpAny (model P w) A (hashByValue 8 (.ref a)) Q E s
  stay : ∀ {h h' : Heap} {x : T} {a : Addr}, (∀ b o vs n, h.get? b = some o → o.data = .seq vs n → h'.get? b = some o) → lies h x a → lies h' x a
section
variable {P : Program} {w : World} {T : Type} [DecidableEq T] {κ : KeyS P w T} {A : Around} {E : Value → Shared → Prop} {s : Shared}
/-- no key among these shows the search -/
theorem unseen {x : T} {b : Addr} (hx : κ.lies s.heap x b) {ys : List Value} (hy : ∀ y ∈ ys, ∃ z c, y = Value.ref c ∧ κ.lies s.heap z c) {Q : Bool → Shared → Prop} (h : Q false s) : wpAny (model P w) A (searchCouldBeSeen (.ref b) ys) Q E s := by
  unfold searchCouldBeSeen
  refine wpAny_bind (wpAny_forIn_list _ (fun l r s' => r.1 = none ∧ s' = s ∧ ∀ y ∈ l, ∃ z c, y = Value.ref c ∧ κ.lies s.heap z c) _ ?_ ?_ _ _ ⟨rfl, rfl, hy⟩)
  · rintro v l r s' ⟨hr, rfl, hl⟩
    obtain ⟨z, c, rfl, hc⟩ := hl v (by simp)
    have hl' := fun u hu => hl u (List.mem_cons_of_mem _ hu)
    dsimp only
    by_cases hv : (b == c || (carriedByValue (.ref b) && carriedByValue (.ref c))) = true
    · exact wp_if_pos hv (wpAny_pure ⟨rfl, rfl, hl'⟩)
    · refine wp_if_neg hv (wpAny_bind (κ.quiet hx ?_))
      simp only [Bool.not_true, Bool.false_eq_true, if_false]
      refine wpAny_bind (κ.quiet hc ?_)
      simp only [Bool.not_true, Bool.false_eq_true, if_false]
      refine wpAny_bind (κ.mute hx ?_)
      simp only [Bool.false_eq_true, if_false]
      refine wpAny_bind (κ.mute hc ?_)
      simp only [Bool.false_eq_true, if_false]
      exact wpAny_pure ⟨rfl, rfl, hl'⟩
  · rintro ⟨r1, r2⟩ s' ⟨hr, rfl, _⟩
    have hr : r1 = none := hr
    subst hr
    exact wpAny_pure h
/-- the rows of a set that holds these keys -/
def setRows (κ : KeyS P w T) (L : List (Addr × T)) : List (Int × Value) := L.map fun p => (κ.num p.2, Value.ref p.1)
/-- a small set of keys -/
structure SetS (κ : KeyS P w T) (h : Heap) (a : Addr) (L : List (Addr × T)) (es : Array (Int × Value)) (ep : Nat) (t : SetTable) : Prop where
  ob : ∃ o, h.get? a = some o ∧ o.ExactSet ∧ o.data = .set es ep t
  rows : es.toList = setRows κ L
  tab : TabOk t (L.map fun p => κ.num p.2)
  nd : (L.map (·.2)).Nodup
  key : ∀ p ∈ L, κ.lies h p.2 p.1
  plain : t.plain = true
  led : w.params.followText "set-order" = true ∨ t.led = true
  mask : t.mask = 7
  few : L.length ≤ 4
variable {a : Addr} {L : List (Addr × T)} {es : Array (Int × Value)} {ep : Nat} {t : SetTable}
theorem SetS.size (R : SetS κ s.heap a L es ep t) : es.size = L.length := by
  have h := congrArg List.length R.rows
  simpa [setRows] using h
theorem SetS.place (R : SetS κ s.heap a L es ep t) : t.place.size = L.length := by
  have h := R.tab.sz
  simpa using h
theorem SetS.fits (R : SetS κ s.heap a L es ep t) : t.fits es.size = true := by
  have h1 := R.place
  have h2 := R.size
  have h3 := R.few
  have h4 := R.mask
  unfold SetTable.fits SetTable.fill
  rw [R.tab.dm, Bool.and_eq_true, beq_iff_eq, decide_eq_true_eq]
  show t.place.size = es.size ∧ t.place.size + 0 ≤ t.mask
  omega
theorem SetS.row (R : SetS κ s.heap a L es ep t) {i : Nat} {p : Addr × T} (h : L[i]? = some p) : es[i]? = some (κ.num p.2, Value.ref p.1) := by
  rw [← Array.getElem?_toList, R.rows, setRows, List.getElem?_map, h]; rfl
theorem SetS.gw (R : SetS κ s.heap a L es ep t) : ¬ t.gaveWay = true := by
  unfold SetTable.gaveWay
  rw [R.mask]
  decide
/-- the c-th probe for a hash -/
abbrev prb (t : SetTable) (h : Int) (c : Nat) : SetTable.Probe := nth t.mask (runAt t.mask (SetTable.bits h % (t.mask + 1)) (SetTable.bits h)) c
theorem prb_dummy (t : SetTable) (h : Int) (c : Nat) : (prb t h c).dummy = none := by
  have key : ∀ (n : Nat) (p : SetTable.Probe), p.dummy = none → (nth t.mask p n).dummy = none := by
    intro n
    induction n with
    | zero => exact fun p z => z
    | succ n ih =>
      intro p z
      refine ih (adv t.mask p) ?_
      unfold adv
      split <;> exact z
  exact key c _ rfl
theorem prb_add (t : SetTable) (h : Int) (c q : Nat) : nth t.mask (prb t h c) q = prb t h (c + q) := (nth_add t.mask c _ q).symm
theorem prb_j (t : SetTable) (h : Int) (c q : Nat) : (nth t.mask (prb t h c) q).j = way t.mask h (c + q) := congrArg SetTable.Probe.j (prb_add t h c q)
theorem find_in (R : SetS κ s.heap a L es ep t) {x : Addr} {k : T} (hx : κ.lies s.heap k x) (hu : A.units + 8 < cLine) {K : Nat} (hKf : K < 10 * SetTable.turns t.mask)
    (hK : way t.mask (κ.num k) K ∉ t.place.toList) (hKb : ∀ c, c < K → way t.mask (κ.num k) c ∈ t.place.toList) {Q : SetFound → Shared → Prop}
    (hin : k ∈ L.map (·.2) → Q (.there none) s) (hout : k ∉ L.map (·.2) → Q (.free (way t.mask (κ.num k) K) false) s) :
    ∀ (f c : Nat) (stand : Option SetTable.Probe), stand.getD (t.probeStart (κ.num k)) = prb t (κ.num k) c → c ≤ K → K - c < f →
      (∀ (i : Nat) p, L[i]? = some p → p.2 = k → ∃ c', c ≤ c' ∧ c' < K ∧ t.place.toList[i]? = some (way t.mask (κ.num k) c')) →
      wpAny (model P w) A (setSearchFrom a (.ref x) (κ.num k) true f stand) Q E s := by
  intro f
  induction f with
  | zero => exact fun c _ _ _ h _ => absurd h (Nat.not_lt_zero _)
  | succ f ih =>
    intro c stand hst hc hf hre
    obtain ⟨o, ho, hex, hd⟩ := R.ob
    rw [setSearchFrom_succ]
    refine wpAny_bind (wpAny_setState_of ho hd R.fits ?_)
    dsimp only
    refine wp_if_neg R.gw ?_
    try refine wpAny_bind (wpAny_pure ?_)
    have hashAt : ∀ (i : Nat) p, L[i]? = some p → (fun i => (es[i]?.map (·.1)).getD 0) i = κ.num p.2 := fun i p hp => by
      show (es[i]?.map (·.1)).getD 0 = _
      rw [R.row hp]; rfl
    have spec := go_spec t R.tab.ris R.tab.dm (fun i => (es[i]?.map (·.1)).getD 0) (κ.num k) (10 * SetTable.turns t.mask) (K - c) _ (prb_dummy t (κ.num k) c) (by omega)
      (fun q hq => by rw [prb_j]; exact hKb (c + q) (by omega)) (by rw [prb_j, show c + (K - c) = K by omega]; exact hK)
    rcases spec with ⟨q, i, hq, hi, hh, hno, hpr⟩ | ⟨hno, hpr⟩
    · have hpr' : t.probe (fun i => (es[i]?.map (·.1)).getD 0) (κ.num k) (stand.getD (t.probeStart (κ.num k))) = some (.candidate (way t.mask (κ.num k) (c + q)) i (prb t (κ.num k) (c + (q + 1)))) := by
        rw [hst, ← prb_j, ← prb_add]
        exact hpr
      rw [hpr']
      dsimp only
      rw [prb_j] at hi
      have hil : i < L.length := by
        have h1 : i < t.place.toList.length := (List.getElem?_eq_some_iff.mp hi).1
        rw [Array.length_toList, R.place] at h1
        exact h1
      obtain ⟨p, hp⟩ : ∃ p, L[i]? = some p := ⟨_, List.getElem?_eq_getElem hil⟩
      have hmem := List.mem_of_getElem? hp
      have go : wpAny (model P w) A (searchRest a (.ref x) (κ.num k) true f es t (way t.mask (κ.num k) (c + q)) i (prb t (κ.num k) (c + (q + 1)))) Q E s := by
        unfold searchRest
        rw [R.row hp]
        dsimp only
        refine wpAny_bind (wpAny_holding (κ.same hu (R.key p hmem) hx ?_))
        refine wpAny_bind (wpAny_setState_of ho hd R.fits ?_)
        dsimp only
        by_cases e : p.2 = k
        · exact wp_if_pos (by simp [e]) (wpAny_pure (hin (List.mem_map.mpr ⟨p, hmem, e⟩)))
        · refine wp_if_neg (by simp [e]) ?_
          try refine wpAny_bind (wpAny_pure ?_)
          rw [sameMem]
          dsimp only
          have hsl : t.slot (way t.mask (κ.num k) (c + q)) = .live i := slot_live R.tab.ris hi
          simp only [if_true, hsl, R.row hp]
          refine wpAny_bind (wpAny_isSame_ref_self (wpAny_bind (wpAny_pure ?_)))
          simp only [if_true]
          refine wp_if_neg (by simp [e]) (ih (c + (q + 1)) _ rfl (by omega) (by omega) fun i0 p0 h0 e0 => ?_)
          obtain ⟨c', a1, a2, a3⟩ := hre i0 p0 h0 e0
          refine ⟨c', ?_, a2, a3⟩
          rcases Nat.lt_trichotomy c' (c + q) with z | z | z
          · refine absurd ((hashAt i0 p0 h0).trans (congrArg κ.num e0)) (hno (c' - c) i0 (by omega) ?_)
            rw [prb_j, show c + (c' - c) = c' by omega]
            exact a3
          · rw [z] at a3
            have s0 := slot_live R.tab.ris a3
            rw [hsl] at s0
            injection s0 with s0
            rw [← s0, hp] at h0
            cases h0
            exact absurd e0 e
          · omega
      by_cases hl : t.led = true
      · refine wp_if_neg (by simp [hl]) ?_
        try refine wpAny_bind (wpAny_pure ?_)
        exact go
      · refine wp_if_pos (by simp [hl]) (wpAny_bind (unseen hx (fun y hy => ?_) ?_))
        · obtain ⟨e, he, rfl⟩ := List.mem_map.mp hy
          have he2 : e ∈ es.toList := by
            have : e ∈ es ∧ e.1 = κ.num k := by simpa using he
            simpa using this.1
          rw [R.rows] at he2
          obtain ⟨p2, hp2, rfl⟩ := List.mem_map.mp he2
          exact ⟨p2.2, p2.1, rfl, R.key p2 hp2⟩
        · refine wp_if_neg (by decide) ?_
          try refine wpAny_bind (wpAny_pure ?_)
          exact go
    · have hpr' : t.probe (fun i => (es[i]?.map (·.1)).getD 0) (κ.num k) (stand.getD (t.probeStart (κ.num k))) = some (.empty (way t.mask (κ.num k) K) none) := by
        have e2 : way t.mask (κ.num k) K = (nth t.mask (prb t (κ.num k) c) (K - c)).j := by rw [prb_j, show c + (K - c) = K by omega]
        rw [hst, e2]
        exact hpr
      rw [hpr']
      dsimp only
      refine wpAny_pure (hout fun hm => ?_)
      obtain ⟨p0, h0, e0⟩ := List.mem_map.mp hm
      obtain ⟨i0, hi0, rfl⟩ := List.getElem_of_mem h0
      have h00 : L[i0]? = some L[i0] := List.getElem?_eq_getElem hi0
      obtain ⟨c', a1, a2, a3⟩ := hre i0 _ h00 e0
      refine hno (c' - c) i0 (by omega) ?_ ((hashAt i0 _ h00).trans (congrArg κ.num e0))
      rw [prb_j, show c + (c' - c) = c' by omega]
      exact a3
theorem find_at (R : SetS κ s.heap a L es ep t) {x : Addr} {k : T} (hx : κ.lies s.heap k x) (hu : A.units + 8 < cLine) {Q : SetFound → Shared → Prop} (hin : k ∈ L.map (·.2) → Q (.there none) s)
    (hout : ∀ K, k ∉ L.map (·.2) → way t.mask (κ.num k) K ∉ t.place.toList → (∀ c, c < K → way t.mask (κ.num k) c ∈ t.place.toList) → Q (.free (way t.mask (κ.num k) K) false) s) :
    wpAny (model P w) A (setSearch a (.ref x) (κ.num k) true) Q E s := by
  have hm := R.mask
  have hl := R.few
  obtain ⟨K, hKf, hK, hKb⟩ := R.tab.first (by rw [List.length_map]; omega) (κ.num k)
  have hbig : K < 100000 := by
    have : 10 * SetTable.turns t.mask ≤ 1420 := by
      unfold SetTable.turns
      omega
    omega
  unfold setSearch
  refine find_in R hx hu hKf hK hKb hin (fun hn => hout K hn hK hKb) 100000 0 none rfl (Nat.zero_le _) (by omega) fun i p hp e => ?_
  have hi : (L.map fun p => κ.num p.2)[i]? = some (κ.num k) := by rw [List.getElem?_map, hp, ← e]; rfl
  have hil : i < t.place.toList.length := by
    rw [Array.length_toList, R.place]
    exact (List.getElem?_eq_some_iff.mp hp).1
  obtain ⟨c, hc, e2⟩ := R.tab.before hK hi (List.getElem?_eq_getElem hil)
  exact ⟨c, Nat.zero_le _, hc, by rw [List.getElem?_eq_getElem hil, e2]⟩
theorem κ_same {h h' : Heap} {k : T} {a b : Addr} {o : Obj} (hb : κ.lies h k b) (ho : h.get? a = some o) (hd : o.data = .set es ep t) (hs : Heap.SameBut a h h') : κ.lies h' k b := κ.stay (fun c o' vs n hc hdc => (hs.2 c (by
    rintro rfl
    rw [ho] at hc
    cases hc
    rw [hd] at hdc
    cases hdc)).trans hc) hb
/-- one key is added -/
theorem add_key (R : SetS κ s.heap a L es ep t) {x : Addr} {k : T} (hx : κ.lies s.heap k x) (hu : A.units + 8 < cLine) (hfew : L.length < 4) {Q : Bool → Shared → Prop}
    (hQ : ∀ b h' L' es' ep' t', Heap.SameBut a s.heap h' → SetS κ h' a L' es' ep' t' → (k ∈ L.map (·.2) → L' = L) → (k ∉ L.map (·.2) → L'.Perm ((x, k) :: L)) → Q b { s with heap := h' }) :
    wpAny (model P w) A (setAddHashed a (.ref x) (κ.num k)) Q E s := by
  obtain ⟨o, ho, hex, hd⟩ := R.ob
  have hsl := R.size
  have hm7 := R.mask
  unfold setAddHashed
  refine wpAny_holding ?_
  rw [show (100000 : Nat) = 99999 + 1 from rfl, setAddHashedIn_succ]
  refine wpAny_bind (wpAny_setState_of ho hd R.fits ?_)
  dsimp only
  refine wp_if_neg (by simp [byScan, Value.scannable]) ?_
  try refine wpAny_bind (wpAny_pure ?_)
  refine wpAny_bind (find_at R hx hu (fun hm => ?_) fun K hm hK hb => ?_)
  · dsimp only
    exact wpAny_pure (hQ false s.heap L es ep t (Heap.SameBut.refl a s.heap) R (fun _ => rfl) fun z => absurd hm z)
  · dsimp only
    refine wpAny_bind (wpAny_setState_of ho hd R.fits ?_)
    dsimp only
    obtain ⟨q1, q2, q3, q4, q5, q6, q7, q8, q9⟩ := R.tab.put hK hb
    have hp1 : (t.put (way t.mask (κ.num k) K)).1.plain = true := by rw [q6]; exact R.plain
    generalize hpt : t.put (way t.mask (κ.num k) K) = pt at q1 q3 q4 q5 q6 q7 q8 q9 hp1 ⊢
    obtain ⟨t1, p⟩ := pt
    dsimp only at q1 q3 q4 q5 q6 q7 q8 q9 hp1 ⊢
    subst q1
    first
      | (refine wpAny_bind ?_; refine wp_if_pos hp1 ?_; refine κ.byv hx ?_)
      | refine wp_if_pos hp1 (wpAny_bind (κ.byv hx ?_))
    simp only [if_true]
    have hin : (SetTable.insertAt es (SetTable.below t.place (way t.mask (κ.num k) K)) (κ.num k, Value.ref x)).toList = setRows κ (L.take (SetTable.below t.place (way t.mask (κ.num k) K)) ++ (x, k) :: L.drop (SetTable.below t.place (way t.mask (κ.num k) K))) := by
      rw [SetTable.toList_insertAt, R.rows]
      unfold setRows
      rw [List.map_append, List.map_cons, List.map_take, List.map_drop]
    generalize hpp : SetTable.below t.place (way t.mask (κ.num k) K) = p at q2 q3 hin ⊢
    have pm := put_perm L p (x, k)
    have hlen : (L.take p ++ (x, k) :: L.drop p).length = L.length + 1 := pm.length_eq
    have hhs : (L.take p ++ (x, k) :: L.drop p).map (fun p => κ.num p.2) = (L.map fun p => κ.num p.2).take p ++ κ.num k :: (L.map fun p => κ.num p.2).drop p := by
      rw [List.map_append, List.map_cons, List.map_take, List.map_drop]
    rw [← hhs] at q3
    have nd1 : ((L.take p ++ (x, k) :: L.drop p).map (·.2)).Nodup := by
      refine (pm.map (·.2)).nodup_iff.mpr ?_
      rw [List.map_cons]
      exact List.nodup_cons.mpr ⟨hm, R.nd⟩
    have hes : (SetTable.insertAt es p (κ.num k, Value.ref x)).size = L.length + 1 := by
      have h := congrArg List.length hin
      unfold setRows at h
      rw [Array.length_toList, List.length_map, hlen] at h
      exact h
    generalize SetTable.insertAt es p (κ.num k, Value.ref x) = es1 at hin hes ⊢
    generalize L.take p ++ (x, k) :: L.drop p = L1 at pm hlen q3 nd1 hin
    refine wpAny_bind (wpAny_storeSet_of ho hd ?_ (by rw [hes, sizeLine_eq]; omega))
    have sb : Heap.SameBut a s.heap (s.heap.update a (Obj.putSet es1 t1)) := Heap.SameBut.update ..
    have ho1 := store_at (es' := es1) (t' := t1) ho hd
    generalize s.heap.update a (Obj.putSet es1 t1) = h1 at sb ho1 ⊢
    have key1 : ∀ p ∈ L1, κ.lies h1 p.2 p.1 := fun p hp => by
      rcases List.mem_cons.mp (pm.mem_iff.mp hp) with e | hp
      · rw [e]; exact κ_same hx ho hd sb
      · exact κ_same (R.key p hp) ho hd sb
    have nf : ¬ t1.tooFull = true := by
      intro h
      unfold SetTable.tooFull at h
      rw [decide_eq_true_eq, q9, List.length_map, q4, hm7] at h
      omega
    first
      | refine wp_if_neg (by simp [nf]) ?_
      | (refine wpAny_bind ?_; refine wp_if_neg (by simp [nf]) ?_; refine wpAny_pure ?_)
    exact wpAny_pure (hQ true h1 L1 es1 (ep + 1) t1 sb ⟨⟨_, ho1, ⟨hex.1, hex.2.1, hex.2.2⟩, rfl⟩, hin, q3, nd1, key1, hp1, by rw [q5]; exact R.led, by rw [q4]; exact hm7, by rw [hlen]; omega⟩ (fun z => absurd z hm) fun _ => pm)
end
end Iv
set_option maxHeartbeats 3200000
/-! Iv26: set(tuple). -/
namespace Iv
open PySem PySem.Spec PyProof.Rows L2 PpSet
/-- the set at S holds the first i of items; one more can be added -/
structure SetZT (P : Program) (w : World) (h0 : Heap) (S : Addr) (items : List Value) (Z : Nat → Heap → Prop) : Prop where
  keep : ∀ i (h h' : Heap), Z i h → (∀ b o, b = S ∨ h0.get? b ≠ none → h.get? b = some o → h'.get? b = some o) → Z i h'
  add : ∀ (A : Around) (E : Value → Shared → Prop) (s : Shared) (i : Nat) (v : Value) (Q : Bool → Shared → Prop), A.units + 8 < cLine → items[i]? = some v → Z i s.heap → (∀ b h' tk, Heap.SameBut S s.heap h' → s.toks ≤ tk → Z (i + 1) h' → Q b { s with heap := h', toks := tk }) → wpAny (model P w) A (setAdd S v) Q E s
section
variable {P : Program} {w : World} {A : Around} {E : Value → Shared → Prop} {s : Shared}
theorem set_update_ZT {I : Addr} {fp wr : List Addr} {G : Array GenState → Array GenState → Prop} {n : Nat} {St : Nat → Shared → Prop} {R : Result → Shared → Prop} {items : List Value} {S : Addr} {Z : Nat → Heap → Prop} {h0 : Heap} (hw0 : ∀ b ∈ wr, h0.get? b = none)
    (W : WalksS P w A.in1 I fp wr G n (fun i v => items[i]? = some v) St) (hSf : S ∉ fp) (hn : n = items.length) (hz : SetZT P w h0 S items Z) (hu : A.in1.units + 8 < cLine) :
    ∀ (k i : Nat) (s : Shared), n - i = k → i ≤ n → St i s → Z i s.heap →
      (∀ s', Moved (S :: wr) G s s' → Z n s'.heap → R (.ok (.ret .none)) s') →
      codeAny (model P w) A (.builtin "set.update.loop" ⟨[.ref S, .ref I], []⟩) R s := by
  have hSw : S ∉ wr := fun h => hSf (W.sub _ h)
  have kw : ∀ c, c = S ∨ h0.get? c ≠ none → c ∉ wr := fun c hc hm => hc.elim (fun e => hSw (e ▸ hm)) fun e => e (hw0 c hm)
  have hsub : ∀ b ∈ wr, b ∈ S :: wr := fun b hb => List.mem_cons_of_mem _ hb
  intro k
  induction k with
  | zero =>
    intro i s hk' hi hst hS hR
    have hin : i = n := by omega
    subst hin
    refine codeAny_builtin F.entry_set_update_loop ?_
    rw [Around.under_plainId F.plain_set_update_loop _]
    show wpAny _ A.in1 (pyNext (.ref I) >>= _) _ _ s
    refine wpAny_bind (W.done s _ _ hst fun s' hm => ?_)
    show wpAny _ A.in1 (ret Value.none) _ _ s'
    exact wpAny_pure (hR s' (hm.mono hsub) (hz.keep _ _ _ hS fun c o hc e => hm.heap c o (kw c hc) e))
  | succ k ih =>
    intro i s hk' hi hst hS hR
    have hlt : i < n := by omega
    refine codeAny_builtin F.entry_set_update_loop ?_
    rw [Around.under_plainId F.plain_set_update_loop _]
    show wpAny _ A.in1 (pyNext (.ref I) >>= _) _ _ s
    refine wpAny_bind (W.item i s _ _ hlt hst fun v s' hP hst' hm => ?_)
    show wpAny _ A.in1 (holding [v] (setAdd S v) >>= _) _ _ s'
    refine wpAny_bind (wpAny_holding (hz.add _ _ s' i v _ hu hP (hz.keep _ _ _ hS fun c o hc e => hm.heap c o (kw c hc) e) fun b h' tk hsb htk hS3 => ?_))
    refine wpAny_pure ⟨plainId_quiet F.plain_set_update_loop _, ih (i + 1) _ (by omega) hlt (W.frame _ s' _ _ hst' htk fun b hb o e => ?_) hS3 fun s'' hm'' hS'' => ?_⟩
    · rw [hsb.2 b (fun h : b = S => hSf (by rw [← h]; exact hb))]; exact e
    · refine hR s'' (Moved.trans W.gtrans ((hm.mono hsub).then_heap htk fun b o hb e => ?_) hm'') hS''
      rw [hsb.2 b (fun h : b = S => hb (by rw [h]; exact List.mem_cons_self))]; exact e
set_option maxRecDepth 100000 in
theorem call_set_ZT {l : Addr} {items : Array Value} {Z : Nat → Heap → Prop} {Q : Value → Shared → Prop} (hh : A.handled = none) (hu : A.units + 12 < cLine) (hl : s.heap.IsTuple l items) (hz : SetZT P w s.heap s.heap.objs.size items.toList Z)
    (h0 : ∀ h : Heap, h.get? s.heap.objs.size = some { cls := .type "set", dict := none, data := .set #[] 0 (.fresh 0 0 (!w.params.followText "set-order")) } → (∀ b o, s.heap.get? b = some o → h.get? b = some o) → Z 0 h)
    (h : ∀ (h' : Heap) (tk : Nat), Z items.size h' → (∀ b o, s.heap.get? b = some o → h'.get? b = some o) → Q (.ref s.heap.objs.size) { s with heap := h', toks := tk }) :
    wpAny (model P w) A (call (.type "set") [.ref l]) Q E s := by
  obtain ⟨c, tl, hmro⟩ := F.called_set.mro
  have hmade := F.called_set.made
  have hsub := F.called_set.sub
  refine wpAny_call (codeAny_of_tree ?_)
  show wpAny _ _ (callAny (.type "set") _) _ _ _
  refine wpAny_pure ⟨Code.quiet_builtin _ (by decide +kernel), codeAny_builtin F.entry_type_call ?_⟩
  rw [Around.under_plain (weight_type_call_type "set" [.ref l] []) rfl]
  have h1 := F.called_set.notType
  have h2 := F.called_set.canCreate
  have hct := F.typeCall_set_1 (.ref l)
  repeat (any_goals (first | assumption | wp_step))
  refine codeAny_mono (code_set_led1 (.ref l) (E := E) (Q₁ := fun obj s₁ => obj = .ref s.heap.objs.size ∧ s₁ = { s with heap := s.heap.push { cls := .type "set", dict := none, data := .set #[] 0 (.fresh 0 0 (!w.params.followText "set-order")) } }) ⟨rfl, rfl⟩) fun r s₁ hr => ?_
  cases r with
  | error e => exact hr
  | ok fl =>
    cases fl with
    | ret obj =>
      obtain ⟨rfl, rfl⟩ := hr
      have hS : (s.heap.push { cls := .type "set", dict := none, data := .set #[] 0 (.fresh 0 0 (!w.params.followText "set-order")) }).get? s.heap.objs.size = some { cls := .type "set", dict := none, data := .set #[] 0 (.fresh 0 0 (!w.params.followText "set-order")) } := Heap.get?_push_size _ rfl
      have hT : Shared.TypeIs { s with heap := s.heap.push { cls := .type "set", dict := none, data := .set #[] 0 (.fresh 0 0 (!w.params.followText "set-order")) } } (.ref s.heap.objs.size) "set" := ⟨_, hS, rfl⟩
      have hli := F.called_set.init.lookup
      have hbi := F.called_set.init.bind (.ref s.heap.objs.size)
      repeat (any_goals (first | assumption | wp_step))
      refine codeAny_mono (codeAny_call_builtin (R := wants (fun r s₂ => r = .none ∧ ∃ h' tk, s₂ = { s with heap := h', toks := tk } ∧ Z items.size h' ∧
          (∀ b o, s.heap.get? b = some o → h'.get? b = some o)) E) F.called_set.init.plain F.entry_set_init (check_set_init_1 hT ?_)) fun r₂ s₂ hr₂ => ?_
      · obtain ⟨ol, hol, hcl, nl, hdl⟩ := hl
        obtain ⟨ocls, odict, odata, oslots⟩ := ol
        simp only at hcl hdl
        subst hcl; subst hdl
        have hol' : (s.heap.push { cls := .type "set", dict := none, data := .set #[] 0 (.fresh 0 0 (!w.params.followText "set-order")) }).get? l = some { cls := .type "tuple", dict := odict, data := .seq items nl, slots := oslots } := Heap.get?_push_of_some _ hol
        have hsls := F.sub_tuple_set
        have hslf := F.sub_tuple_frozenset
        have hne : (Value.type "tuple" == Value.type "dict") = false := by decide
        have hl1 : (s.heap.push { cls := .type "set", dict := none, data := .set #[] 0 (.fresh 0 0 (!w.params.followText "set-order")) }).IsTuple l items := ⟨_, hol', rfl, nl, rfl⟩
        unfold Builtin.«set.__init__» noKeywords Builtin.Frozenset.updateFrom
        generalize hPI : pyIter = PI
        wp_walk
        subst hPI
        refine wpAny_pyIter_tuple hl1 ?_
        refine wpAny_bind (wpAny_runValue ?_)
        have hlS : l < s.heap.objs.size := Heap.lt_size hol
        have hh3 : A.in1.in1.in1.handled = none := by simp [hh]
        have hz1 : (s.heap.push { cls := .type "set", dict := none, data := .set #[] 0 (.fresh 0 0 (!w.params.followText "set-order")) }).objs.size = s.heap.objs.size + 1 := Heap.size_push ..
        have hneI : l ≠ (s.heap.push { cls := .type "set", dict := none, data := .set #[] 0 (.fresh 0 0 (!w.params.followText "set-order")) }).objs.size := by
          rw [Heap.size_push]; exact Nat.ne_of_lt (Nat.lt_succ_of_lt hlS)
        have hSf : s.heap.objs.size ∉ [(s.heap.push { cls := .type "set", dict := none, data := .set #[] 0 (.fresh 0 0 (!w.params.followText "set-order")) }).objs.size, l] := by
          rw [Heap.size_push]; simp only [List.mem_cons, List.mem_singleton, List.not_mem_nil, or_false, not_or]
          exact ⟨Nat.ne_of_lt (Nat.lt_succ_self _), Nat.ne_of_gt hlS⟩
        have W0 := (Walks.tuple (prog := P) (w := w) hh3 (s.heap.push { cls := .type "set", dict := none, data := .set #[] 0 (.fresh 0 0 (!w.params.followText "set-order")) }).objs.size l hneI items).toS
        have eP : (fun (i : Nat) (v : Value) => items[i]? = some v) = fun i v => items.toList[i]? = some v := by
          funext i v
          rw [Array.getElem?_toList]
        rw [eP] at W0
        have up : ∀ B : Around, B.in1.units ≤ B.units + 1 := fun B => by first | exact Nat.le_refl _ | exact Nat.le_succ _
        have u1 := up A
        have u2 := up A.in1
        have u3 := up A.in1.in1
        refine set_update_ZT (h0 := s.heap) (fun b hb => by
          rw [List.mem_singleton.mp hb, Heap.size_push]
          exact Heap.get?_none_of_le (Nat.le_succ _)) (items := items.toList) (Z := Z) W0 hSf (by simp) hz (by omega) (items.size - 0) 0 _ (by omega) (Nat.zero_le _)
          ⟨⟨_, Heap.get?_push_size _ rfl, rfl, rfl⟩, (hl1.push _)⟩ ?hS0 ?hR
        case hS0 =>
          have hget : ((s.heap.push { cls := .type "set", dict := none, data := .set #[] 0 (.fresh 0 0 (!w.params.followText "set-order")) }).push { cls := .type "tuple_iterator", data := .fields #[.ref l, .int 0 0] }).get? s.heap.objs.size
              = some { cls := .type "set", dict := none, data := .set #[] 0 (.fresh 0 0 (!w.params.followText "set-order")) } := Heap.get?_push_of_some _ hS
          exact h0 _ hget fun b o e => Heap.get?_push_of_some _ (Heap.get?_push_of_some _ e)
        case hR =>
          intro s' hm hS'
          obtain ⟨h', g2, d', tk', os'⟩ := s'
          have eg : g2 = s.gens := hm.gens
          have ed : d' = s.drawn := hm.drawn
          have eo : os' = s.os := hm.os
          subst eg; subst ed; subst eo
          show wpAny _ _ _ _ _ _
          refine wpAny_pure ?_
          show wpAny _ _ (ret Value.none) _ _ _
          refine wpAny_pure ⟨rfl, h', tk', rfl, hS', fun b o e => ?_⟩
          have hb0 : b < s.heap.objs.size := Heap.lt_size e
          have hb1 : b ≠ s.heap.objs.size := Nat.ne_of_lt hb0
          have hb2 : b ≠ (s.heap.push { cls := .type "set", dict := none, data := .set #[] 0 (.fresh 0 0 (!w.params.followText "set-order")) }).objs.size := by
            rw [Heap.size_push]; exact Nat.ne_of_lt (Nat.lt_succ_of_lt hb0)
          exact hm.heap b o (by simp only [List.mem_cons, List.mem_singleton, List.not_mem_nil, or_false, not_or]; exact ⟨hb1, hb2⟩) (Heap.get?_push_of_some _ (Heap.get?_push_of_some _ e))
      · cases r₂ with
        | error e => exact hr₂
        | ok fl₂ =>
          cases fl₂ with
          | ret r =>
            obtain ⟨rfl, h', tk, rfl, hS', hk'⟩ := hr₂
            repeat (any_goals (first | assumption | wp_step))
            exact h _ _ hS' hk'
          | _ => exact hr₂.elim
    | _ => exact hr.elim
/-- what the set has got from the first i keys -/
structure GotS {T : Type} (ks : List (Addr × T)) (i : Nat) (L : List (Addr × T)) : Prop where
  sub : ∀ p ∈ L, p ∈ ks.take i
  all : ∀ p ∈ ks.take i, p.2 ∈ L.map (·.2)
  len : L.length ≤ i
theorem take_one {α : Type} {l : List α} {i : Nat} {x : α} (h : l[i]? = some x) : l.take (i + 1) = l.take i ++ [x] := by rw [List.take_add_one, h]; rfl
/-- keys can be added -/
theorem setZT_keys {T : Type} [DecidableEq T] {κ : KeyS P w T} {S : Addr} {items : List Value} {ks : List (Addr × T)} (hit : items = ks.map fun p => Value.ref p.1) (h4 : ks.length ≤ 4) {h0 : Heap} (hS : h0.get? S = none) (hk : ∀ p ∈ ks, κ.lies h0 p.2 p.1) :
    SetZT P w h0 S items (fun i h => (∀ b o, h0.get? b = some o → h.get? b = some o) ∧ ∃ L es ep t, SetS κ h S L es ep t ∧ GotS ks i L) where
  keep := by
    intro i h h' ⟨hold, L, es, ep, t, R, g⟩ hk'
    have hold' : ∀ b o, h0.get? b = some o → h'.get? b = some o := fun b o e => hk' b o (.inr (by rw [e]; simp)) (hold b o e)
    obtain ⟨o, ho, r⟩ := R.ob
    exact ⟨hold', L, es, ep, t, ⟨⟨o, hk' S o (.inl rfl) ho, r⟩, R.rows, R.tab, R.nd, fun p hp => κ.stay (fun b o vs n hb _ => hold' b o hb) (hk p (List.mem_of_mem_take (g.sub p hp))), R.plain, R.led, R.mask, R.few⟩, g⟩
  add := by
    intro A E s i v Q hu hv ⟨hold, L, es, ep, t, R, g⟩ hQ
    rw [hit, List.getElem?_map] at hv
    cases hp : ks[i]? with
    | none => rw [hp] at hv; cases hv
    | some p =>
      rw [hp] at hv
      cases hv
      have hx : κ.lies s.heap p.2 p.1 := κ.stay (fun b o vs n hb _ => hold b o hb) (hk p (List.mem_of_getElem? hp))
      have hi : i < ks.length := (List.getElem?_eq_some_iff.mp hp).1
      have hgl := g.len
      unfold setAdd
      refine wpAny_holding (wpAny_bind (κ.hsh hu hx ?_))
      refine add_key (s := { s with toks := s.toks + κ.cost p.2 }) R hx hu (by omega) fun b h' L' es' ep' t' hsb R' c1 c2 => ?_
      refine hQ b h' _ hsb (Nat.le_add_right _ _) ⟨fun c o e => (hsb.2 c (fun z => by rw [z, hS] at e; cases e)).trans (hold c o e), L', es', ep', t', R', ?_⟩
      by_cases hm : p.2 ∈ L.map (·.2)
      · rw [c1 hm]
        refine ⟨fun q hq => ?_, fun q hq => ?_, by omega⟩
        · rw [take_one hp]; exact List.mem_append_left _ (g.sub q hq)
        · rw [take_one hp] at hq
          rcases List.mem_append.mp hq with z | z
          · exact g.all q z
          · rw [List.mem_singleton.mp z]; exact hm
      · have pm := c2 hm
        refine ⟨fun q hq => ?_, fun q hq => ?_, by rw [pm.length_eq, List.length_cons]; omega⟩
        · rw [take_one hp]
          rcases List.mem_cons.mp (pm.mem_iff.mp hq) with z | z
          · rw [z]; exact List.mem_append_right _ (List.mem_singleton.mpr rfl)
          · exact List.mem_append_left _ (g.sub q z)
        · rw [(pm.map (·.2)).mem_iff, List.map_cons]
          rw [take_one hp] at hq
          rcases List.mem_append.mp hq with z | z
          · exact List.mem_cons_of_mem _ (g.all q z)
          · rw [List.mem_singleton.mp z]; exact List.mem_cons_self
end
end Iv
set_option maxHeartbeats 3200000
/-! Iv27: points as keys of a set. -/
namespace Iv
open PySem PySem.Spec PyProof.Rows L2 PpSet
def PairAt (h : Heap) (p : Int × Int) (a : Addr) : Prop := ∃ o n t1 t2, h.get? a = some o ∧ o.cls = .type "tuple" ∧ o.data = .seq #[.int p.1 t1, .int p.2 t2] n
def PtAt (h : Heap) (x : P4) (a : Addr) : Prop := ∃ o n b c, h.get? a = some o ∧ o.cls = .type "tuple" ∧ o.data = .seq #[.ref b, .ref c] n ∧ PairAt h x.1 b ∧ PairAt h x.2 c
def kP (x : P4) : NestedKey := .tup [.tup [.num x.1.1, .num x.1.2], .tup [.num x.2.1, .num x.2.2]]
theorem kP_inj {x y : P4} (h : kP x = kP y) : x = y := by
  obtain ⟨⟨a, b⟩, c, d⟩ := x
  obtain ⟨⟨a', b'⟩, c', d'⟩ := y
  simp only [kP, NestedKey.tup.injEq, List.cons.injEq, NestedKey.num.injEq, and_true] at h
  obtain ⟨⟨rfl, rfl⟩, rfl, rfl⟩ := h
  rfl
theorem PairAt.nested {h : Heap} {p : Int × Int} {a : Addr} (r : PairAt h p a) : NestedIs h (.tup [.num p.1, .num p.2]) (.ref a) := by
  obtain ⟨o, n, t1, t2, ho, hc, hd⟩ := r
  exact .tup ho hc hd (.cons (.int _ _) (.cons (.int _ _) .nil))
theorem PtAt.nested {h : Heap} {x : P4} {a : Addr} (r : PtAt h x a) : NestedIs h (kP x) (.ref a) := by
  obtain ⟨o, n, b, c, ho, hc, hd, h1, h2⟩ := r
  exact .tup ho hc hd (.cons h1.nested (.cons h2.nested .nil))
theorem kP_depth (x : P4) : (kP x).depth ≤ 8 := by
  simp [kP, NestedKey.depth, NestedKey.depthAll]
section
variable {P : Program} {w : World}
def MuteAt (P : Program) (w : World) (n : Nat) (s : Shared) (v : Value) : Prop := ∀ (A : Around) (E : Value → Shared → Prop) (Q : Bool → Shared → Prop), Q false s → wpAny (model P w) A (ofAClassStatement n v) Q E s
theorem mute_int (n : Nat) (s : Shared) (i : Int) (t : Tok) : MuteAt P w n s (.int i t) := fun A E Q h => by
  rw [ofAClass_int]
  exact wpAny_pure h
theorem mute_tup {n : Nat} {s : Shared} {a : Addr} {o : Obj} {vs : Array Value} {m : Nat} (ho : s.heap.get? a = some o) (hc : o.cls = .type "tuple") (hd : o.data = .seq vs m) (hall : ∀ v ∈ vs.toList, MuteAt P w n s v) : MuteAt P w (n + 1) s (.ref a) := fun A E Q h => by
  have hT : s.TypeIs (.ref a) "tuple" := ⟨o, ho, hc⟩
  unfold ofAClassStatement
  refine wpAny_bind (wpAny_typeOf hT ?_)
  dsimp only
  have e : (("tuple" : String) == "tuple") = true := by decide
  simp only [e, if_true, Bool.not_true, Bool.false_eq_true, if_false]
  try refine wpAny_bind (wpAny_pure ?_)
  try simp only [Bool.not_true, Bool.false_eq_true, if_false]
  show wpAny _ _ (seqItems? (.ref a) >>= _) _ _ s
  refine wpAny_bind (wpAny_seqItems ho hd ?_)
  dsimp only
  refine wpAny_bind ?_
  show wpAny _ _ (forIn vs _ _) _ _ s
  rw [← Array.forIn_toList]
  refine wpAny_forIn_list _ (fun l r s' => r.1 = none ∧ s' = s ∧ ∀ v ∈ l, MuteAt P w n s v) _ ?_ ?_ _ _ ⟨rfl, rfl, hall⟩
  · rintro v l r s' ⟨hr, rfl, hl⟩
    refine wpAny_bind (hl v (by simp) _ _ _ ?_)
    simp only [Bool.false_eq_true, if_false]
    exact wpAny_pure ⟨rfl, rfl, fun u hu => hl u (List.mem_cons_of_mem _ hu)⟩
  · rintro ⟨r1, r2⟩ s' ⟨hr, rfl, _⟩
    have hr : r1 = none := hr
    subst hr
    exact wpAny_pure h
def ByvAt (P : Program) (w : World) (n : Nat) (s : Shared) (v : Value) : Prop := ∀ (A : Around) (E : Value → Shared → Prop) (Q : Bool → Shared → Prop), Q true s → wpAny (model P w) A (hashByValue n v) Q E s
theorem byv_int (n : Nat) (s : Shared) (i : Int) (t : Tok) : ByvAt P w n s (.int i t) := fun A E Q h => by
  rw [hashBy_int]
  exact wpAny_pure h
theorem byv_tup {n : Nat} {s : Shared} {a : Addr} {o : Obj} {vs : Array Value} {m : Nat} (ho : s.heap.get? a = some o) (hc : o.cls = .type "tuple") (hd : o.data = .seq vs m) (hall : ∀ v ∈ vs.toList, ByvAt P w n s v) : ByvAt P w (n + 1) s (.ref a) := fun A E Q h => by
  have hT : s.TypeIs (.ref a) "tuple" := ⟨o, ho, hc⟩
  unfold hashByValue
  refine wpAny_bind (wpAny_specialOf hT F.slot_tuple_hash.lookup ?_)
  show wpAny _ _ (seqItems? (.ref a) >>= _) _ _ s
  refine wpAny_bind (wpAny_seqItems ho hd ?_)
  refine wpAny_bind ?_
  show wpAny _ _ (forIn vs _ _) _ _ s
  rw [← Array.forIn_toList]
  refine wpAny_forIn_list _ (fun l r s' => r.1 = none ∧ s' = s ∧ ∀ v ∈ l, ByvAt P w n s v) _ ?_ ?_ _ _ ⟨rfl, rfl, hall⟩
  · rintro v l r s' ⟨hr, rfl, hl⟩
    refine wpAny_bind (hl v (by simp) _ _ _ ?_)
    simp only [Bool.not_true, Bool.false_eq_true, if_false]
    exact wpAny_pure ⟨rfl, rfl, fun u hu => hl u (List.mem_cons_of_mem _ hu)⟩
  · rintro ⟨r1, r2⟩ s' ⟨hr, rfl, _⟩
    have hr : r1 = none := hr
    subst hr
    exact wpAny_pure h
theorem pair_mute {n : Nat} {s : Shared} {p : Int × Int} {a : Addr} (r : PairAt s.heap p a) : MuteAt P w (n + 1) s (.ref a) := by
  obtain ⟨o, m, t1, t2, ho, hc, hd⟩ := r
  refine mute_tup ho hc hd fun v hv => ?_
  simp only [List.mem_cons, List.mem_nil_iff, or_false] at hv
  rcases hv with rfl | rfl <;> exact mute_int _ _ _ _
theorem pair_byv {n : Nat} {s : Shared} {p : Int × Int} {a : Addr} (r : PairAt s.heap p a) : ByvAt P w (n + 1) s (.ref a) := by
  obtain ⟨o, m, t1, t2, ho, hc, hd⟩ := r
  refine byv_tup ho hc hd fun v hv => ?_
  simp only [List.mem_cons, List.mem_nil_iff, or_false] at hv
  rcases hv with rfl | rfl <;> exact byv_int _ _ _ _
theorem pt_mute {n : Nat} {s : Shared} {x : P4} {a : Addr} (r : PtAt s.heap x a) : MuteAt P w (n + 2) s (.ref a) := by
  obtain ⟨o, m, b, c, ho, hc, hd, h1, h2⟩ := r
  refine mute_tup ho hc hd fun v hv => ?_
  simp only [List.mem_cons, List.mem_nil_iff, or_false] at hv
  rcases hv with rfl | rfl
  · exact pair_mute h1
  · exact pair_mute h2
theorem pt_byv {n : Nat} {s : Shared} {x : P4} {a : Addr} (r : PtAt s.heap x a) : ByvAt P w (n + 2) s (.ref a) := by
  obtain ⟨o, m, b, c, ho, hc, hd, h1, h2⟩ := r
  refine byv_tup ho hc hd fun v hv => ?_
  simp only [List.mem_cons, List.mem_nil_iff, or_false] at hv
  rcases hv with rfl | rfl
  · exact pair_byv h1
  · exact pair_byv h2
theorem PairAt.stay {h h' : Heap} (k : ∀ b o vs n, h.get? b = some o → o.data = .seq vs n → h'.get? b = some o) {p : Int × Int} {a : Addr} (r : PairAt h p a) : PairAt h' p a := by
  obtain ⟨o, n, t1, t2, ho, hc, hd⟩ := r
  exact ⟨o, n, t1, t2, k a o _ n ho hd, hc, hd⟩
theorem PtAt.stay {h h' : Heap} (k : ∀ b o vs n, h.get? b = some o → o.data = .seq vs n → h'.get? b = some o) {x : P4} {a : Addr} (r : PtAt h x a) : PtAt h' x a := by
  obtain ⟨o, n, b, c, ho, hc, hd, h1, h2⟩ := r
  exact ⟨o, n, b, c, k a o _ n ho hd, hc, hd, h1.stay k, h2.stay k⟩
def keyPt (P : Program) (w : World) : KeyS P w P4 where
  lies := PtAt
  num := fun x => (kP x).hash w
  cost := fun x => (kP x).draws
  same := fun {A E s x y a b Q} hu hx hy h => (nestedKind P w).eqBool hu ⟨hx.nested, kP_depth x⟩ ⟨hy.nested, kP_depth y⟩ (by
    have e : decide (kP x = kP y) = decide (x = y) := by
      by_cases z : x = y
      · rw [z]; simp
      · rw [decide_eq_false z, decide_eq_false fun q => z (kP_inj q)]
    rw [e]
    exact h)
  hsh := fun {A E s x a Q} hu hx h => (nestedKind P w).pyHash hu ⟨hx.nested, kP_depth x⟩ h
  quiet := fun {A E s x a Q} hx h => (nestedKind P w).quiet ⟨hx.nested, kP_depth x⟩ h
  mute := fun {A E s x a Q} hx h => pt_mute (n := 6) hx A E Q h
  byv := fun {A E s x a Q} hx h => pt_byv (n := 6) hx A E Q h
  stay := fun k r => r.stay k
end
end Iv
set_option maxHeartbeats 1600000
/-! Iv28: x[::-1]. -/
namespace Iv
open PySem PySem.Spec PyProof.Rows L2
section
variable {P : Program} {w : World} {A : Around} {E : Value → Shared → Prop} {s : Shared}
theorem applied_rev {sl : Addr} {vl vu vs : Value} {n : Nat} {Q : Int × Int × Nat → Shared → Prop} (hs : s.heap.IsSliceOf sl vl vu vs) (pl : IsPart vl none) (pu : IsPart vu none) (ps : IsPart vs (some (-1)))
    (h : Q ((n : Int) - 1, -1, n) s) : wpAny (model P w) A (Builtin.Slice.sliceApplied (.ref sl) (pure (n : Int))) Q E s := by
  obtain ⟨os, hos, hcs, hds⟩ := id hs
  unfold Builtin.Slice.sliceApplied Builtin.Slice.sliceFields
  refine wpAny_bind (wpAny_bind (wpAny_field hos hds (x := vl) rfl (wpAny_bind (wpAny_field hos hds (x := vu) rfl (wpAny_bind (wpAny_field hos hds (x := vs) rfl (wpAny_pure ?_)))))))
  refine wpAny_bind (HT.slicePart_ ps ?_)
  show wpAny _ _ (if ((-1 : Int) == 0) = true then _ else _) _ _ s
  rw [if_neg (by decide)]
  refine wpAny_bind (HT.slicePart_ pl (wpAny_bind (HT.slicePart_ pu (wpAny_bind (wpAny_pure ?_)))))
  show wpAny _ _ (pure ((n : Int) - 1, (-1 : Int), Builtin.Slice.slicePlaces ((n : Int) - 1) (-1) (-1))) _ _ s
  have e : Builtin.Slice.slicePlaces ((n : Int) - 1) (-1) (-1) = n := by
    unfold Builtin.Slice.slicePlaces
    have h1 : ¬ ((-1 : Int) > 0) := by decide
    simp only [h1, if_false]
    rw [show (- -1 : Int) = 1 by decide, Int.ediv_one]
    split <;> omega
  rw [e]
  exact wpAny_pure h
theorem fm_map {α β : Type} {f : α → Option β} {g : α → β} : ∀ {l : List α}, (∀ k ∈ l, f k = some (g k)) → l.filterMap f = l.map g
  | [], _ => rfl
  | k :: l, h => by rw [List.filterMap_cons_some (h k (by simp)), List.map_cons, fm_map fun j hj => h j (List.mem_cons_of_mem _ hj)]
theorem pick_rev (xs : Array Value) : ((List.range xs.size).filterMap fun (k : Nat) => xs[((xs.size : Int) - 1 + (k : Int) * (-1)).toNat]?).toArray = xs.toList.reverse.toArray := by
  congr 1
  apply List.ext_getElem?
  intro i
  have h1 : (List.range xs.size).filterMap (fun (k : Nat) => xs[((xs.size : Int) - 1 + (k : Int) * (-1)).toNat]?) = (List.range xs.size).map fun (k : Nat) => xs.toList.getD (xs.size - 1 - k) .none := by
    refine fm_map fun k hk => ?_
    have hk := List.mem_range.mp hk
    have e : ((xs.size : Int) - 1 + (k : Int) * (-1)).toNat = xs.size - 1 - k := by omega
    rw [e, List.getD_eq_getElem?_getD, ← Array.getElem?_toList]
    rw [List.getElem?_eq_getElem (by rw [Array.length_toList]; omega)]
    rfl
  rw [h1, List.getElem?_map]
  by_cases hi : i < xs.size
  · rw [List.getElem?_range hi, List.getElem?_reverse (by rw [Array.length_toList]; exact hi), Array.length_toList]
    show some (xs.toList.getD (xs.size - 1 - i) .none) = _
    rw [List.getD_eq_getElem?_getD, List.getElem?_eq_getElem (by rw [Array.length_toList]; omega)]
    rfl
  · rw [List.getElem?_eq_none (by rw [List.length_range]; omega), List.getElem?_eq_none (by rw [List.length_reverse, Array.length_toList]; omega)]
    rfl
theorem getItem_rev {t sl : Addr} {items : Array Value} {vl vu vs : Value} {Q : Value → Shared → Prop} (ht : IsTup s.heap t items) (hs : s.heap.IsSliceOf sl vl vu vs) (pl : IsPart vl none) (pu : IsPart vu none) (ps : IsPart vs (some (-1)))
    (h : Q (.ref s.heap.objs.size) { s with heap := s.heap.push { cls := .type "tuple", data := .seq items.toList.reverse.toArray } }) (hsz : items.size ≤ sizeLine) : wpAny (model P w) A (getItem (.ref t) (.ref sl)) Q E s := by
  have ok : sizeOk (.seq items.toList.reverse.toArray) := by
    show items.toList.reverse.toArray.size ≤ sizeLine
    rw [List.size_toArray, List.length_reverse, Array.length_toList]
    exact hsz
  obtain ⟨os, hos, hcs, hds⟩ := id hs
  have hTs : s.TypeIs (.ref sl) "slice" := ⟨os, hos, hcs⟩
  unfold getItem
  try with_reducible refine wpAny_holding ?_
  first | refine wpAny_bind (wpAny_pure ?_) | skip
  refine wpAny_bind (wpAny_sequenceKey ht.typeIs (by decide) ?_)
  refine wpAny_bind (wpAny_callSpecial?_slot (name := Str.ofString "__getitem__") ht.typeIs PyProof.Rows.slot_tuple_getitem
    (wpAny_call_entry PyProof.Rows.slot_tuple_getitem ht.typeIs entry_tuple_getitem ?_ (args_tuple_getitem _ _)))
  show wpAny _ _ (Builtin.Tuple.tupleItemsOf (.ref t) >>= _) _ _ s
  refine wpAny_bind (tupleItemsOf_ ht ?_)
  refine wpAny_bind (wpAny_typeOf hTs ?_)
  rw [if_pos (by decide)]
  refine wpAny_bind (applied_rev hs pl pu ps ?_)
  show wpAny _ _ (if (((items.size : Int) - 1) == 0 && (-1 : Int) == 1 && items.size == items.size) = true then _ else _) _ _ s
  rw [if_neg (by simp), pick_rev]
  first
    | exact wpAny_bind (m := Builtin.Tuple.tupleExact _) (wpAny_newObj_type (wpAny_pure ⟨_, rfl, wpAny_pure h⟩) ok)
    | exact wpAny_bind (m := Builtin.Tuple.tupleExact _) (wpAny_newObj_type (wpAny_bind (wpAny_pure (wpAny_pure ⟨_, rfl, wpAny_pure h⟩))) ok)
    | exact wpAny_bind (wpAny_bind (m := Builtin.Tuple.tupleExact _) (wpAny_newObj_type (wpAny_pure (wpAny_pure ⟨_, rfl, wpAny_pure h⟩)) ok))
    | exact wpAny_bind (wpAny_bind (m := Builtin.Tuple.tupleExact _) (wpAny_newObj_type (wpAny_pure ⟨_, rfl, wpAny_pure h⟩) ok))
end
section
variable {X : Cx}
/-- x[::-1], x a tuple or a list -/
def tRev (K : PySem.W.Frag) (te : TE) : TE := fun σ H Q => te σ H fun x H1 => ∃ a xs, x = .ref a ∧ ((SqT K H1 a xs ∧ ∀ p, H1 p = none → Q (.ref p) (upd H1 p (.tup xs.reverse))) ∨ (SqL K H1 a xs ∧ ∀ p, H1 p = none → Q (.ref p) (upd H1 p (.lst xs.reverse))))
theorem pe_rev {e : Expr} {te : TE} {k : Nat} {p1 p2 p3 pos : Pos} (he : PE X e te) : PE X (.Subscript e (.Slice none none (some (.UnaryOp .USub (.Constant (.int 1) k p1) p2)) p3) pos) (tRev X.K te) := by
  refine ⟨fun pins s σ H Q I h => ?_⟩
  refine Subscript_ (thn (he.run pins s σ H _ I h) fun v s1 ⟨x, H1, I1, r1, q1⟩ => ?_)
  obtain ⟨a, xs, ex, q⟩ := q1
  subst ex
  cases r1
  have hst : PO X (some (.UnaryOp .USub (.Constant (.int 1) k p1) p2)) (tPart (tUn (rU fun i => .int (-i)) (tC (.int 1)))) := po_some (pe_un un_neg pe_int)
  refine wpAny_Slice (thn (po_none.run pins s1 σ H1 (fun o H2 => o = none ∧ H2 = H1) I1 ⟨rfl, rfl⟩) fun vl s2 ⟨l, H2, I2, pl, el, e2⟩ => ?_)
  subst el e2
  refine thn (po_none.run pins s2 σ H2 (fun o H3 => o = none ∧ H3 = H2) I2 ⟨rfl, rfl⟩) fun vu s3 ⟨u, H3, I3, pu, eu, e3⟩ => ?_
  subst eu e3
  refine thn (hst.run pins s3 σ H3 (fun o H4 => o = some (-1) ∧ H4 = H3) I3 ⟨1, rfl, -1, rfl, rfl, rfl⟩) fun vs s4 ⟨o, H4, I4, ps, eo, e4⟩ => ?_
  subst eo e4
  have I5 : Inv X pins σ H4 { s4 with heap := s4.heap.push { cls := .type "slice", data := .fields #[vl, vu, vs] } } := I4.kept (t' := s4.toks) fun b ob q => Heap.get?_push_of_some _ q
  show wpAny (model X.prog X.w) X.A (subscriptTail e (.Slice none none (some (.UnaryOp .USub (.Constant (.int 1) k p1) p2)) p3) (.ref a) (.ref s4.heap.objs.size)) (EP X pins σ Q) X.xe { s4 with heap := s4.heap.push { cls := .type "slice", data := .fields #[vl, vu, vs] } }
  rcases q with ⟨hx, q⟩ | ⟨hx, q⟩
  · obtain ⟨its, r, ht, hz⟩ := I5.tuple hx
    have hlen := r.length
    refine tail_any (ops := [.ref a, .ref s4.heap.objs.size]) ht.typeIs (PyProof.Rows.slot_tuple_getitem.lookup) ?_ (by with_unfolding_all rfl)
    refine getItem_rev ht (Heap.IsSliceOf.new _ vl vu vs) pl pu ps ?_ (by rw [List.size_toArray]; omega)
    refine ⟨.ref _, _, I5.laid (t' := s4.toks) (o := .tup xs.reverse) (fun b ob q => Heap.get?_push_of_some _ q) (Nat.le_refl _) ?_, rfl, q _ (I5.hok.fresh (Nat.le_refl _))⟩
    exact ⟨by rw [List.length_reverse]; exact hz, _, r.reverse, IsTup.new _ _⟩
  · obtain ⟨its, r, ht, hz⟩ := I5.list hx
    have hlen := r.length
    refine tail_any (ops := [.ref a, .ref s4.heap.objs.size]) ht.isList.typeIs (PySem.slot_list_getitem.lookup) ?_ (by with_unfolding_all rfl)
    refine wpAny_getItem_list_slice ht.isList (Heap.IsSliceOf.new _ vl vu vs) pl pu ps (by decide) ?_ (by rw [List.size_toArray]; omega)
    rw [PySem.W.krv_pick]
    refine ⟨.ref _, _, I5.laid (t' := s4.toks) (o := .lst xs.reverse) (fun b ob q => Heap.get?_push_of_some _ q) (Nat.le_refl _) ?_, rfl, q _ (I5.hok.fresh (Nat.le_refl _))⟩
    exact ⟨by rw [List.length_reverse]; exact hz, _, 0, r.reverse, Heap.get?_push_size _ rfl⟩
variable {G : Gx} {W : WX} {n : Nat}
theorem e_rev {e : Expr} {ie : Ex} {k : Nat} {p1 p2 p3 pos : Pos} (ha : PE X e (tE X.K G W n ie)) : PE X (.Subscript e (.Slice none none (some (.UnaryOp .USub (.Constant (.int 1) k p1) p2)) p3) pos) (tE X.K G W n (.rev ie)) := by
  refine (pe_rev ha).imp fun σ H Q ⟨fr, μ, O, ρ, S, rel, h⟩ => ?_
  refine ⟨fr, μ, O, ρ, S, rel, (End.bind (RR := Rp X.K G) h).mono fun x H1 ⟨dx, S1, μ1, s1, rel1, r1, h1⟩ => ?_⟩
  obtain ⟨d, e, h1⟩ := End.of_some h1
  cases dx <;> try (cases e; done)
  case tup ys =>
    cases e
    obtain ⟨a, vs, rfl, hx, qs⟩ := r1.tup_of
    exact ⟨a, vs, rfl, .inl ⟨hx, fun p hp => End.fin h1 rel1 (same_upd hp) (Rp.newT rel1.nt hp (Rps.rev qs))⟩⟩
  case lst ys =>
    cases e
    obtain ⟨a, vs, rfl, hx, qs⟩ := r1.lst_of
    exact ⟨a, vs, rfl, .inr ⟨hx, fun p hp => End.fin h1 rel1 (same_upd hp) (Rp.newL rel1.nt hp (Rps.rev qs))⟩⟩
end
end Iv
set_option maxHeartbeats 3200000
/-! Iv29: sorted(set(points)). -/
namespace Iv
open PySem PySem.Spec PyProof.Rows L2 PpSet
/-! ### the order of points -/
def ptD (p : P4) : PyData := .tuple [.tuple [.int p.1.1, .int p.1.2], .tuple [.int p.2.1, .int p.2.2]]
theorem lt_pt (p q : P4) : PySem.W.dataLt (ptD p) (ptD q) = decide (LtP p q) := by
  obtain ⟨⟨a, b⟩, c, d⟩ := p
  obtain ⟨⟨a', b'⟩, c', d'⟩ := q
  have il : ∀ i j : Int, PyProof.Rows.itemLt (Sum.inl i) (Sum.inl j) = decide (i < j) := fun _ _ => rfl
  have e : PySem.W.dataLt (ptD ((a, b), c, d)) (ptD ((a', b'), c', d')) = (decide (a < a') || (!decide (a' < a) && (decide (b < b') || (!decide (b' < b) && (decide (c < c') || (!decide (c' < c) && decide (d < d'))))))) := by
    simp [PySem.W.dataLt, ptD, PySem.W.keyToks, PySem.W.keyToksAll, PyProof.Rows.lexLt, PyProof.Rows.itemOrd, il, Bool.and_assoc]
  rw [e, Bool.eq_iff_iff, decide_eq_true_iff (p := LtP _ _)]
  simp only [Bool.or_eq_true, Bool.and_eq_true, Bool.not_eq_true', decide_eq_true_eq, decide_eq_false_iff_not, LtP]
  omega
theorem LtP.irr (p : P4) : ¬ LtP p p := by unfold LtP; omega
theorem LtP.trans {p q r : P4} (h : LtP p q) (h2 : LtP q r) : LtP p r := by unfold LtP at *; omega
theorem LtP.tri (p q : P4) : LtP p q ∨ p = q ∨ LtP q p := by
  obtain ⟨⟨a, b⟩, c, d⟩ := p
  obtain ⟨⟨a', b'⟩, c', d'⟩ := q
  simp only [LtP, Prod.mk.injEq]
  omega
theorem insP_mem {x y : P4} : ∀ {l : List P4}, y ∈ insP x l ↔ y = x ∨ y ∈ l
  | [] => by simp [insP]
  | z :: l => by
    unfold insP
    split
    · simp
    · split
      · rename_i h; rw [h]; simp
      · rw [List.mem_cons, insP_mem, List.mem_cons]
        constructor
        · rintro (h | h | h)
          · exact .inr (.inl h)
          · exact .inl h
          · exact .inr (.inr h)
        · rintro (h | h | h)
          · exact .inr (.inl h)
          · exact .inl h
          · exact .inr (.inr h)
theorem insP_asc {x : P4} : ∀ {l : List P4}, l.Pairwise LtP → (insP x l).Pairwise LtP
  | [], _ => by simp [insP]
  | z :: l, h => by
    obtain ⟨h1, h2⟩ := List.pairwise_cons.mp h
    unfold insP
    split
    · rename_i hx
      refine List.pairwise_cons.mpr ⟨fun y hy => ?_, h⟩
      rcases List.mem_cons.mp hy with e | e
      · rw [e]; exact hx
      · exact hx.trans (h1 y e)
    · split
      · exact h
      · rename_i n1 n2
        refine List.pairwise_cons.mpr ⟨fun y hy => ?_, insP_asc h2⟩
        rcases insP_mem.mp hy with e | e
        · rw [e]
          rcases LtP.tri x z with c | c | c
          · exact absurd c n1
          · exact absurd c n2
          · exact c
        · exact h1 y e
theorem psort_mem {y : P4} : ∀ {l : List P4}, y ∈ psort l ↔ y ∈ l
  | [] => by simp [psort]
  | x :: l => by rw [psort, insP_mem, psort_mem, List.mem_cons]
theorem psort_asc : ∀ {l : List P4}, (psort l).Pairwise LtP
  | [] => .nil
  | _ :: _ => insP_asc psort_asc
theorem ascP_uniq : ∀ {l m : List P4}, l.Pairwise LtP → m.Pairwise LtP → (∀ x, x ∈ l ↔ x ∈ m) → l = m
  | [], [], _, _, _ => rfl
  | [], y :: m, _, _, h => absurd ((h y).mpr (by simp)) (by simp)
  | x :: l, [], _, _, h => absurd ((h x).mp (by simp)) (by simp)
  | x :: l, y :: m, hl, hm, h => by
    obtain ⟨a1, a2⟩ := List.pairwise_cons.mp hl
    obtain ⟨b1, b2⟩ := List.pairwise_cons.mp hm
    have e : x = y := by
      rcases List.mem_cons.mp ((h x).mp (by simp)) with z | z
      · exact z
      · rcases List.mem_cons.mp ((h y).mpr (by simp)) with z2 | z2
        · exact z2.symm
        · exact absurd ((b1 x z).trans (a1 y z2)) (LtP.irr y)
    subst e
    rw [ascP_uniq a2 b2 fun z => ?_]
    constructor
    · intro hz
      rcases List.mem_cons.mp ((h z).mp (List.mem_cons_of_mem _ hz)) with e | e
      · exact absurd (e ▸ a1 z hz) (LtP.irr _)
      · exact e
    · intro hz
      rcases List.mem_cons.mp ((h z).mpr (List.mem_cons_of_mem _ hz)) with e | e
      · exact absurd (e ▸ b1 z hz) (LtP.irr _)
      · exact e
theorem perm_map {α β : Type} [DecidableEq α] {f : α → β} : ∀ {vs : List β} {L : List α}, vs.Perm (L.map f) → ∃ bs : List α, bs.Perm L ∧ vs = bs.map f
  | [], L, h => by
    have : L = [] := by
      have := h.length_eq
      rw [List.length_map] at this
      exact List.length_eq_zero_iff.mp this.symm
    subst this
    exact ⟨[], .nil, rfl⟩
  | v :: vs, L, h => by
    obtain ⟨x, hx, rfl⟩ := List.mem_map.mp (h.mem_iff.mp (List.mem_cons_self))
    have p := List.perm_cons_erase hx
    have h2 : vs.Perm ((L.erase x).map f) := by
      have := h.trans (p.map f)
      rw [List.map_cons] at this
      exact this.cons_inv
    obtain ⟨bs, pb, rfl⟩ := perm_map h2
    exact ⟨x :: bs, (pb.cons x).trans p.symm, rfl⟩
theorem pair_reads {h : Heap} {p : Int × Int} {a : Addr} (r : PairAt h p a) : Reads h (.ref a) (.tuple [.int p.1, .int p.2]) [] := by
  obtain ⟨o, n, t1, t2, ho, hc, hd⟩ := r
  exact .tuple ho hc hd (.cons (as := []) (bs := []) (.int _ _) (.cons (as := []) (bs := []) (.int _ _) .nil))
theorem pt_reads {h : Heap} {x : P4} {a : Addr} (r : PtAt h x a) : Reads h (.ref a) (ptD x) [] := by
  obtain ⟨o, n, b, c, ho, hc, hd, h1, h2⟩ := r
  exact .tuple ho hc hd (.cons (as := []) (bs := []) (pair_reads h1) (.cons (as := []) (bs := []) (pair_reads h2) .nil))
section
variable {P : Program} {w : World} {A : Around} {E : Value → Shared → Prop} {s : Shared}
/-- sorted of a small set of points -/
theorem sorted_setP {a : Addr} {L : List (Addr × P4)} {es : Array (Int × Value)} {ep : Nat} {t : SetTable} {Q : Value → Shared → Prop} (R : SetS (keyPt P w) s.heap a L es ep t) (hh : A.handled = none) (hu : A.units + 2 + 64 < cLine)
    (hQ : ∀ s' p (out : Array Value) (c : Nat) (M : List (Addr × P4)), (∀ b o, s.heap.get? b = some o → s'.heap.get? b = some o) → s'.gens = s.gens → s'.os = s.os → s.heap.objs.size ≤ p →
      s'.heap.get? p = some (seqObj "list" out c) → M.Perm L → out.toList = M.map (fun (q : Addr × P4) => Value.ref q.1) → (M.map (·.2)).Pairwise LtP → Q (.ref p) s') :
    wpAny (model P w) A (call (.builtin "sorted") [.ref a]) Q E s := by
  obtain ⟨o, ho, hex, hd⟩ := R.ob
  refine Calls.call_function_entry kind_sorted plain_sorted entry_sorted (args_sorted1 _) ?_
  unfold Builtin.«sorted»
  refine wpAny_bind (m := checkCount "sorted" 1 1 _) (wpAny_pure ?_)
  have few := R.few
  have hsz := R.size
  refine wpAny_bind (collect_set (A := A.in1) hh ⟨o, ho, hex.1, hd⟩ R.fits (by rw [hsz]; unfold scanBound; omega) R.tab.ris R.led fun s1 vs k1 hz g1 o1 pm => ?_)
  have pm2 : vs.Perm (L.map fun (q : Addr × P4) => Value.ref q.1) := by
    rw [R.rows] at pm
    unfold setRows at pm
    rw [List.map_map] at pm
    exact pm
  obtain ⟨bs, pb, rfl⟩ := perm_map pm2
  have hlen : bs.length ≤ 4 := by rw [pb.length_eq]; exact few
  refine wpAny_bind (wpAny_newList ?_ (by rw [List.length_map, sizeLine_eq]; omega))
  have hoL : (s1.heap.push (seqObj "list" (bs.map fun (q : Addr × P4) => Value.ref q.1).toArray 0)).get? s1.heap.objs.size = some (seqObj "list" (bs.map fun (q : Addr × P4) => Value.ref q.1).toArray 0) := Heap.get?_push_size _ rfl
  have eR : ∀ l : List (Addr × P4), PySem.W.EachIs (fun u (b : Addr × P4) => u = Value.ref b.1) (l.map fun (q : Addr × P4) => Value.ref q.1) l := by
    intro l
    induction l with
    | nil => exact .nil
    | cons b l ih => exact .cons rfl ih
  have rd : ∀ q ∈ bs, Reads (s1.heap.push (seqObj "list" (bs.map fun (q : Addr × P4) => Value.ref q.1).toArray 0)) (.ref q.1) (ptD q.2) [] := fun q hq =>
    pt_reads ((R.key q (pb.mem_iff.mp hq)).stay fun b o' vs n hb _ => Heap.get?_push_of_some _ (k1 b o' hb))
  refine wpAny_bind (wpAny_holding (PySem.W.list_sort_data (enc := fun q : Addr × P4 => ptD q.2) hoL (eR bs) ?er ?hal ?hk (by rw [sizeLine_eq]; omega) (fun b _ => ?hu) fun out hl2 ho2 => ?fin))
  case er =>
    have gen : ∀ l : List (Addr × P4), (∀ q ∈ l, Reads (s1.heap.push (seqObj "list" (bs.map fun (q : Addr × P4) => Value.ref q.1).toArray 0)) (.ref q.1) (ptD q.2) []) →
        PySem.W.EachIs (fun v (b : Addr × P4) => ∃ as, Reads (s1.heap.push (seqObj "list" (bs.map fun (q : Addr × P4) => Value.ref q.1).toArray 0)) v (ptD b.2) as ∧ s1.heap.objs.size ∉ as) (l.map fun (q : Addr × P4) => Value.ref q.1) l := by
      intro l
      induction l with
      | nil => intro _; exact .nil
      | cons b l ih => intro h; exact .cons ⟨[], h b (by simp), by simp⟩ (ih fun q hq => h q (List.mem_cons_of_mem _ hq))
    exact gen bs rd
  case hal =>
    intro d hd d' hd'
    obtain ⟨x, _, rfl⟩ := List.mem_map.mp hd
    obtain ⟨y, _, rfl⟩ := List.mem_map.mp hd'
    simp [ptD, PySem.W.alike, PySem.W.alikeAll]
  case hk =>
    refine .inl fun d hd => ?_
    obtain ⟨x, _, rfl⟩ := List.mem_map.mp hd
    exact ⟨_, _, rfl⟩
  case hu =>
    have e : (ptD b.2).depth ≤ 4 := by simp [ptD, PyData.depth, PyData.depthAll]
    have e2 : A.in1.units ≤ A.units + 1 := by first | exact Nat.le_refl _ | exact Nat.le_succ _
    omega
  case fin =>
    have eo : ∀ (out : List Value) (l : List (Addr × P4)), PySem.W.EachIs (fun u (b : Addr × P4) => u = Value.ref b.1) out l → out = l.map fun (q : Addr × P4) => Value.ref q.1 := by
      intro out l h
      induction h with
      | nil => rfl
      | cons h _ ih => rw [h, ih]; rfl
    have e1 := eo _ _ ho2
    obtain ⟨c, hc⟩ := sortedHeap_at (vs := bs.map fun (q : Addr × P4) => Value.ref q.1) (out := out.toArray) hoL
    have tot : PySem.W.TotalLe (PySem.W.dataLe false fun q : Addr × P4 => ptD q.2) := PySem.W.sortLe_total _ _ _
    have pw := List.pairwise_mergeSort (le := PySem.W.dataLe false fun q : Addr × P4 => ptD q.2) (fun a b c => tot.trans a b c) (fun a b => by rcases tot.total a b with h | h <;> simp [h]) bs
    have pM := List.mergeSort_perm bs (PySem.W.dataLe false fun q : Addr × P4 => ptD q.2)
    refine wpAny_pure ⟨_, rfl, hQ _ s1.heap.objs.size out.toArray c (bs.mergeSort (PySem.W.dataLe false fun q : Addr × P4 => ptD q.2)) (fun b u e => ?_) g1 o1 hz hc (pM.trans pb) (by rw [List.toList_toArray, e1]) ?_⟩
    · have q := k1 b u e
      have hlt := Heap.lt_size q
      show (sortedHeap (s1.heap.push (seqObj "list" (bs.map fun (q : Addr × P4) => Value.ref q.1).toArray 0)) s1.heap.objs.size (bs.map fun (q : Addr × P4) => Value.ref q.1) out.toArray).get? b = some u
      rw [sortedHeap_old (Nat.ne_of_lt hlt) (by rw [size_push']; exact Nat.lt_succ_of_lt hlt)]
      exact Heap.get?_push_of_some _ q
    · have nd : ((bs.mergeSort (PySem.W.dataLe false fun q : Addr × P4 => ptD q.2)).map (·.2)).Pairwise (· ≠ ·) := (((pM.trans pb).map (fun q : Addr × P4 => q.2)).nodup_iff.mpr R.nd : List.Nodup _)
      rw [List.pairwise_map] at nd ⊢
      refine (pw.and nd).imp fun {x y} h => ?_
      obtain ⟨h1, h2⟩ := h
      have h3 : PySem.W.dataLt (ptD y.2) (ptD x.2) = false := by
        have : (!PySem.W.dataLt (ptD y.2) (ptD x.2)) = true := h1
        simpa using this
      rw [lt_pt] at h3
      rcases LtP.tri x.2 y.2 with c | c | c
      · exact c
      · exact absurd c h2
      · exact absurd c (of_decide_eq_false h3)
end
end Iv
set_option maxHeartbeats 3200000
/-! Iv30: sorted(set(tuple of points)), in the evaluator. -/
namespace Iv
open PySem PySem.Spec PyProof.Rows L2 PpSet
theorem setS_fresh {P : Program} {w : World} {T : Type} [DecidableEq T] {κ : KeyS P w T} {h : Heap} {a : Addr} (ho : h.get? a = some { cls := .type "set", dict := none, data := .set #[] 0 (.fresh 0 0 (!w.params.followText "set-order")) }) : SetS κ h a [] #[] 0 (.fresh 0 0 (!w.params.followText "set-order")) where
  ob := ⟨_, ho, ⟨rfl, rfl, rfl⟩, rfl⟩
  rows := rfl
  tab := ⟨List.Pairwise.nil, rfl, rfl, .inl rfl, fun x hx => (by cases hx), fun i h j hi => (by simp at hi)⟩
  nd := List.nodup_nil
  key := fun p hp => (by cases hp)
  plain := rfl
  led := by
    show _ ∨ (!w.params.followText "set-order") = true
    cases w.params.followText "set-order"
    · exact .inr rfl
    · exact .inl rfl
  mask := rfl
  few := Nat.zero_le _
section
variable {X : Cx}
/-- a point in the model: a tuple of two tuples of two ints -/
def PtM (K : PySem.W.Frag) (H : Hp) (x : P4) (a : Addr) : Prop := ∃ b c, SqT K H a [.ref b, .ref c] ∧ SqT K H b [.int x.1.1, .int x.1.2] ∧ SqT K H c [.int x.2.1, .int x.2.2]
theorem pair_at {pins : List (Addr × Obj)} {σ : St} {H : Hp} {s : Shared} (I : Inv X pins σ H s) {i j : Int} {a : Addr} (h : SqT X.K H a [.int i, .int j]) : PairAt s.heap (i, j) a := by
  obtain ⟨its, rv, ht, _⟩ := I.tuple h
  cases rv with
  | cons r rv =>
    cases rv with
    | cons r2 rv =>
      cases rv
      obtain ⟨t1, rfl⟩ := r
      obtain ⟨t2, rfl⟩ := r2
      obtain ⟨o, ho, hc, n, hd⟩ := ht
      exact ⟨o, n, t1, t2, ho, hc, hd⟩
theorem pt_at {pins : List (Addr × Obj)} {σ : St} {H : Hp} {s : Shared} (I : Inv X pins σ H s) {x : P4} {a : Addr} (h : PtM X.K H x a) : PtAt s.heap x a := by
  obtain ⟨b, c, h0, h1, h2⟩ := h
  obtain ⟨its, rv, ht, _⟩ := I.tuple h0
  cases rv with
  | cons r rv =>
    cases rv with
    | cons r2 rv =>
      cases rv
      cases r
      cases r2
      obtain ⟨o, ho, hc, n, hd⟩ := ht
      exact ⟨o, n, b, c, ho, hc, hd, pair_at I h1, pair_at I h2⟩
theorem refs_of : ∀ {ps : List (Addr × P4)} {us : List Value}, Vals (ps.map fun q => V.ref q.1) us → us = ps.map fun q => Value.ref q.1
  | [], _, h => by cases h; rfl
  | p :: ps, _, h => by
    cases h with
    | cons r h =>
      cases r
      rw [refs_of h]; rfl
theorem vals_refs : ∀ ps : List (Addr × P4), Vals (ps.map fun q => V.ref q.1) (ps.map fun q => Value.ref q.1)
  | [] => .nil
  | p :: ps => .cons rfl (vals_refs ps)
/-- sorted(set(e)), e a tuple of points -/
def tSSetT (K : PySem.W.Frag) (ta : TE) : TE := fun σ H Q => ta σ H fun x H1 => ∃ (l : Addr) (ps : List (Addr × P4)), x = .ref l ∧ SqT K H1 l (ps.map fun q => V.ref q.1) ∧ ps.length ≤ 4 ∧ (∀ q ∈ ps, PtM K H1 q.2 q.1) ∧
  ∀ p (M : List (Addr × P4)), (∀ q ∈ M, q ∈ ps) → M.map (fun q => q.2) = psort (ps.map fun q => q.2) → H1 p = none → Q (.ref p) (upd H1 p (.lst (M.map fun q => V.ref q.1)))
theorem pe_ssetT {a : Expr} {ta : TE} {p p2 q pos : Pos} (hg : Gl X "sorted") (hm : X.mg "sorted" = none) (hg2 : Gl X "set") (hm2 : X.mg "set" = none) (ha : PE X a ta) (hc : X.calm = true) (hu : X.A.units + 2 + 64 < cLine)
    (na : starEach [a] X.env = (false, eval a X.env) :: starEach [] X.env := by rfl) : PE X (.Call (.Name "sorted" p) [.Call (.Name "set" p2) [a] [] q] [] pos) (tSSetT X.K ta) := by
  refine ⟨fun pins s σ H Q I h => ?_⟩
  refine Call_ (ld_blt I hg hm boot_sorted ?_)
  refine PyProof.Rows.callWith_builtin1 (PyProof.Rows.args_cons ?_ rfl) rfl rfl
  refine Call_ (ld_blt I hg2 hm2 boot_set ?_)
  refine PyProof.Rows.callWith_type1 (PyProof.Rows.args_cons (thn (ha.run pins s σ H _ I h) fun v s1 ⟨x, H1, I1, r1, q1⟩ => PyProof.Rows.args_nil ?_) na) na rfl
  obtain ⟨l, ps, rfl, hq, h4, hpt, q1⟩ := q1
  cases r1
  obtain ⟨its, r, pl, hz⟩ := I1.tuple hq
  have hit : its.toArray.toList = ps.map fun q => Value.ref q.1 := by rw [List.toList_toArray]; exact refs_of r
  have hlen : its.toArray.size = ps.length := by rw [← Array.length_toList, hit, List.length_map]
  refine call_set_ZT (I1.ok.hd hc) (by omega) pl (setZT_keys (κ := keyPt X.prog X.w) hit h4 (Heap.get?_none_of_le (Nat.le_refl _)) fun q hq => pt_at I1 (hpt q hq)) (fun h e hold => ⟨hold, [], #[], 0, _, setS_fresh e, ⟨fun p hp => (by cases hp), fun p hp => (by simp at hp), Nat.le_refl _⟩⟩) fun h' tk ⟨_, L, es, ep, t, R, g⟩ hk => ?_
  rw [hlen] at g
  refine PyProof.Rows.args_nil ?_
  refine sorted_setP (s := { s1 with heap := h', toks := tk }) R (I1.ok.hd hc) hu fun s' p out c2 M k g2 o hp hg' pm ho hasc => ?_
  have I2 : Inv X pins σ H1 { s1 with heap := h', toks := tk } := I1.kept hk
  have hn : H1 p = none := I2.hok.fresh hp
  have hM4 : M.length ≤ 4 := by rw [pm.length_eq]; exact R.few
  have J : Inv X pins σ (upd H1 p (.lst (M.map fun q => V.ref q.1))) { ({ s1 with heap := h', toks := tk } : Shared) with heap := s'.heap, gens := s'.gens, drawn := s'.drawn, toks := s'.toks } :=
    I2.call (ch := []) (Un.laid k hp hn) (I2.hok.laid k hp ⟨by rw [List.length_map, sizeLine_eq]; omega, out.toList, c2, by rw [ho]; exact vals_refs M, hg'⟩) (by rw [g2]; exact I2.bare) (fun _ z => nomatch z)
  have es : s' = { s1 with heap := s'.heap, gens := s'.gens, drawn := s'.drawn, toks := s'.toks } := by
    cases s'
    cases s1
    cases o
    rfl
  rw [es]
  refine ⟨.ref p, _, J, rfl, q1 p M (fun q hq => List.mem_of_mem_take (g.sub q (pm.mem_iff.mp hq))) (ascP_uniq hasc psort_asc fun x => ?_) hn⟩
  rw [psort_mem, (pm.map (fun q : Addr × P4 => q.2)).mem_iff]
  constructor
  · intro hx
    obtain ⟨q, hq, rfl⟩ := List.mem_map.mp hx
    exact List.mem_map.mpr ⟨q, List.mem_of_mem_take (g.sub q hq), rfl⟩
  · intro hx
    obtain ⟨q, hq, rfl⟩ := List.mem_map.mp hx
    exact g.all q (by rw [List.take_length]; exact hq)
end
end Iv
set_option maxHeartbeats 1600000
/-! Iv31: the rule for sorted(set(tuple of points)). -/
namespace Iv
open PySem PySem.Spec PyProof.Rows L2
section
variable {K : PySem.W.Frag} {G : Gx} {N : Addr → Prop} {μ : List Addr} {H : Hp}
theorem ptO_enc {d : D} {p : P4} (h : ptO d = some p) : d = encP4 p := by
  unfold ptO at h
  split at h
  · cases h; rfl
  · cases h
theorem ints2_of {v : V} {i j : Int} (r : Rp K G N μ H v (.tup [.int i, .int j])) : ∃ a, v = .ref a ∧ SqT K H a [.int i, .int j] := by
  obtain ⟨a, xs, rfl, hs, rs⟩ := r.tup_of
  cases rs with
  | cons r1 rs =>
    cases rs with
    | cons r2 rs =>
      cases rs
      cases r1
      cases r2
      exact ⟨a, rfl, hs⟩
theorem ptM_of {v : V} {p : P4} (r : Rp K G N μ H v (encP4 p)) : ∃ a, v = .ref a ∧ PtM K H p a := by
  obtain ⟨a, xs, rfl, hs, rs⟩ := r.tup_of
  cases rs with
  | cons r1 rs =>
    cases rs with
    | cons r2 rs =>
      cases rs
      obtain ⟨b, rfl, h1⟩ := ints2_of r1
      obtain ⟨c, rfl, h2⟩ := ints2_of r2
      exact ⟨a, rfl, b, c, hs, h1, h2⟩
theorem pts_of : ∀ {ds : List D} {vs : List V} {ps : List P4}, Rps K G N μ H vs ds → ptsO ds = some ps → ∃ qs : List (Addr × P4), vs = qs.map (fun q => V.ref q.1) ∧ qs.map (fun q => q.2) = ps ∧ ∀ q ∈ qs, PtM K H q.2 q.1 ∧ Rp K G N μ H (.ref q.1) (encP4 q.2)
  | [], vs, ps, r, h => by
    cases r
    cases h
    exact ⟨[], rfl, rfl, fun q hq => by cases hq⟩
  | d :: ds, vs, ps, r, h => by
    cases r with
    | cons r1 rs =>
      rename_i v vs
      have h : (match ptO d, ptsO ds with | some p, some ps => some (p :: ps) | _, _ => none) = some ps := h
      cases e1 : ptO d with
      | none => rw [e1] at h; cases h
      | some p =>
        cases e2 : ptsO ds with
        | none => rw [e1, e2] at h; cases h
        | some ps' =>
          rw [e1, e2] at h
          cases h
          obtain rfl := ptO_enc e1
          obtain ⟨a, rfl, hm⟩ := ptM_of r1
          obtain ⟨qs, rfl, h2, h3⟩ := pts_of rs e2
          refine ⟨(a, p) :: qs, rfl, by rw [List.map_cons, h2], fun q hq => ?_⟩
          rcases List.mem_cons.mp hq with e | hq
          · subst e; exact ⟨hm, r1⟩
          · exact h3 q hq
theorem rps_refs : ∀ {M : List (Addr × P4)}, (∀ q ∈ M, Rp K G N μ H (.ref q.1) (encP4 q.2)) → Rps K G N μ H (M.map fun q => V.ref q.1) ((M.map fun q => q.2).map encP4)
  | [], _ => .nil
  | q :: M, h => .cons (h q (by simp)) (rps_refs fun x hx => h x (List.mem_cons_of_mem _ hx))
end
section
variable {X : Cx} {G : Gx} {W : WX} {n : Nat}
theorem e_sortedSetT {k : Nat} {e : Expr} {ie : Ex} {p p2 q pos : Pos} (B : Bx X W k) (hg : Gl X "sorted") (hm : X.mg "sorted" = none) (hg2 : Gl X "set") (hm2 : X.mg "set" = none) (ha : PE X e (tE X.K G W n ie)) (na : starEach [e] X.env = (false, eval e X.env) :: starEach [] X.env := by rfl) :
    PE X (.Call (.Name "sorted" p) [.Call (.Name "set" p2) [e] [] q] [] pos) (tE X.K G W n (.bi .sortedSetT (.cons ie .nil))) := by
  refine (pe_ssetT hg hm hg2 hm2 ha B.calm (by have := B.room.un; omega) na).imp fun σ H Q ⟨fr, μ, O, ρ, S, rel, h⟩ => ?_
  refine ⟨fr, μ, O, ρ, S, rel, ?_⟩
  have h : End X.K G W (Rp X.K G) fr μ O H σ ρ (((ev G n ie ρ S).bind fun x S1 => Rs.ok [x] S1).bind fun ds S1 => Rs.of (biO .sortedSetT ds) S1) Q := h
  have h : End X.K G W (Rp X.K G) fr μ O H σ ρ ((ev G n ie ρ S).bind fun x S1 => Rs.of (biO .sortedSetT [x]) S1) Q := by
    cases e0 : ev G n ie ρ S <;> (rw [e0] at h; exact h)
  refine (End.bind (RR := Rp X.K G) h).mono fun x H1 ⟨d, S1, μ1, s1, rel1, r1, h1⟩ => ?_
  obtain ⟨d2, e2, h1⟩ := End.of_some h1
  cases d <;> try (cases e2; done)
  rename_i xs
  have e2 : (match ptsO xs with | some ps => if decide (ps.length ≤ 4) then some (D.lst ((psort ps).map encP4)) else none | none => none) = some d2 := e2
  obtain ⟨l, vs, rfl, hq, qs⟩ := r1.tup_of
  cases ep : ptsO xs with
  | none => rw [ep] at e2; cases e2
  | some ps =>
    rw [ep] at e2
    simp only at e2
    split at e2
    · rename_i hs
      cases e2
      obtain ⟨as, rfl, rfl, hall⟩ := pts_of qs ep
      rw [List.length_map] at hs
      refine ⟨l, as, rfl, hq, of_decide_eq_true hs, fun q hq => (hall q hq).1, fun p M hM eM hp => End.fin h1 rel1 (same_upd hp) (Rp.newL rel1.nt hp ?_)⟩
      rw [← eM]
      exact rps_refs fun q hq => (hall q (hM q hq)).2
    · cases e2
end
end Iv
/-! IvEnd: small words for printed derivations. -/
namespace Iv
open PySem PySem.Spec PyProof.Rows L2
def visB (sc : Scope) (x : Str) : Bool := match sc.names.lookup x with
  | some .local => true
  | some .cell => true
  | some .free => true
  | _ => false
theorem vis_by {sc : Scope} {x : Str} (h : visB sc x = true) : Vis sc x := by
  unfold visB at h
  split at h
  · exact .inl (by assumption)
  · exact .inr (.inl (by assumption))
  · exact .inr (.inr (by assumption))
  · cases h
def locB (sc : Scope) (x : Str) : Bool := match sc.names.lookup x with
  | some .local => true
  | some .cell => true
  | _ => false
theorem loc_by {sc : Scope} {x : Str} (h : locB sc x = true) : Loc sc x := by
  unfold locB at h
  split at h
  · exact .inl (by assumption)
  · exact .inr (by assumption)
  · cases h
section
variable {X : Cx} {G : Gx} {W : WX} {n k : Nat} {pos p q p2 : Pos}
theorem hu_of (B : Bx X W k) : X.A.units + 64 < cLine := by have := B.room.un; omega
theorem hu2_of (B : Bx X W k) : X.A.units + 2 + 64 < cLine := by have := B.room.un; omega
theorem e_globI {x : Str} {i : Int} (hg : Gl X x) (hm : ∃ t, X.mg x = some (.int i t)) (hdb : (x == ("__debug__" : Str)) = false := by decide) : PE X (.Name x pos) (tE X.K G W n (.lit (.int i))) := by
  obtain ⟨t, hm⟩ := hm
  exact e_glob (v := .int i) hg hm ⟨t, rfl⟩ (fun _ _ _ => .int _) hdb
theorem e_globS {x y : Str} (hg : Gl X x) (hm : ∃ t, X.mg x = some (.str y t)) (hdb : (x == ("__debug__" : Str)) = false := by decide) : PE X (.Name x pos) (tE X.K G W n (.lit (.str y))) := by
  obtain ⟨t, hm⟩ := hm
  exact e_glob (v := .str y) hg hm ⟨t, rfl⟩ (fun _ _ _ => .str _) hdb
end
/-! ### places in a text -/
def noE : Expr := .Constant .none 0 ⟨0, 0, 0, 0⟩
def exK : Expr → List Expr
  | .BoolOp _ vs _ => vs
  | .BinOp a _ b _ => [a, b]
  | .UnaryOp _ a _ => [a]
  | .Lambda _ b _ _ => [b]
  | .IfExp a b c _ => [a, b, c]
  | .ListComp e gs _ _ => e :: gs.flatMap fun g => g.iter :: g.ifs
  | .Compare a _ bs _ => a :: bs
  | .Call f as _ _ => f :: as
  | .Attribute a _ _ => [a]
  | .Subscript a b _ => [a, b]
  | .List es _ => es
  | .Tuple es _ _ => es
  | _ => []
def stE : Stmt → List Expr
  | .Return (some e) _ => [e]
  | .Assign _ e _ => [e]
  | .AugAssign _ _ e _ => [e]
  | .For _ e _ _ _ => [e]
  | .While e _ _ _ => [e]
  | .If e _ _ _ => [e]
  | .Expr e _ => [e]
  | _ => []
def hdB : ExceptHandler → List Stmt
  | .ExceptHandler _ _ b _ => b
def stS : Stmt → List Stmt
  | .For _ _ b _ _ => b
  | .While _ b _ _ => b
  | .If _ a b _ => a ++ b
  | .Try a hs _ c _ => a ++ hs.flatMap hdB ++ c
  | _ => []
def lamTo (owner : Str) (caps : List Str) : Expr → LamT
  | .Lambda ps b sc _ => ⟨(envOfC owner ⟨.function, [], false, false, []⟩ 0 0 .none).qual ++ "<lambda>", ps, b, sc, caps⟩
  | _ => ⟨owner, ⟨[], [], none, [], [], none, []⟩, noE, ⟨.function, [], false, false, []⟩, caps⟩
/-- how deep the stack may be, so many calls deep -/
def lv (n : Nat) : Nat := 2 * n + 41
section
variable {P : Program} {w : World} {K : PySem.W.Frag} {mg : Str → Option Value} {base : Heap} {G0 : Gs}
theorem fn_okC {n : Nat} {R : Gx → Prop} {x qual : Str} {st : Stmt} {f : Addr} {fd : FuncData} {N ps : List Str} {k j id : Nat} {fi : FnI} (F : Fun K x qual st f fd) (S : FnScope N ps (defScope st)) (hΦ : G0.Φ id = some fi) (hp : fi.pars = ps.length) (hs : fi.slots = N.length) (hpn : ps.length ≤ N.length) (hk : k + 1 = j)
    (body : ∀ (clo : Addr → Option CloV) (cok : ∀ a k, clo a = some k → KOk (G0.lamT k.id) k), R ⟨G0, clo, cok⟩ → ∀ (n' : Nat), n' + 1 = n → ∀ (cdv : Value) (A : Around) (outer : List PySem.Env) (s : Shared) (H : Hp) (E : XK), cdv = fd.code → Bx (cxOf (L2N.CX P w) P w K mg base N qual (defScope st) f cdv A outer s H E) (fun cls d _ H => E cls d H) k →
      LiveX ⟨G0, clo, cok⟩ (cxOf (L2N.CX P w) P w K mg base N qual (defScope st) f cdv A outer s H E) → Cb (cxOf (L2N.CX P w) P w K mg base N qual (defScope st) f cdv A outer s H E) →
      PSs (cxOf (L2N.CX P w) P w K mg base N qual (defScope st) f cdv A outer s H E) (defBody st) (tSs K ⟨G0, clo, cok⟩ (fun cls d _ H => E cls d H) n' fi.body)) :
    FnS P w K mg base G0 R j f fd ps n id := fn_okn F S hΦ hp hs hpn hk fun G hG hR => by
  obtain ⟨G1, clo, cok⟩ := G
  have hG : G1 = G0 := hG
  subst hG
  exact body clo cok hR
theorem lamB_C {N : List Str} {L : LamT} {li : LamI} {k n : Nat} (body : ∀ (clo : Addr → Option CloV) (cok : ∀ a k, clo a = some k → KOk (G0.lamT k.id) k) (a c' : Addr) (cl : List (Str × Addr)) (A : Around) (outer : List PySem.Env) (s : Shared) (H : Hp) (E : XK), Bx (lamC P w K mg base N L a c' cl A outer s H E) (fun cls d _ H => E cls d H) k →
    LiveX ⟨G0, clo, cok⟩ (lamC P w K mg base N L a c' cl A outer s H E) → Cb (lamC P w K mg base N L a c' cl A outer s H E) → PE (lamC P w K mg base N L a c' cl A outer s H E) L.body (tE K ⟨G0, clo, cok⟩ (fun cls d _ H => E cls d H) n li.body)) : LamB P w K mg base G0 N L li k n := fun G hG => by
  obtain ⟨G1, clo, cok⟩ := G
  have hG : G1 = G0 := hG
  subst hG
  exact body clo cok
end
theorem cof_by {X : Cx} {x : Str} (h : (match X.env.scope.names.lookup x with | some .cell => true | some .free => true | _ => false) = true) : X.env.scope.names.lookup x = some .cell ∨ X.env.scope.names.lookup x = some .free := by
  split at h
  · exact .inl (by assumption)
  · exact .inr (by assumption)
  · cases h
theorem hall_by {X : Cx} {scope : Scope} {caps : List Str} (h : (scope.names.all fun y => !(y.2 == .free) || (caps.contains y.1 && (match X.env.scope.names.lookup y.1 with | some .cell => true | some .free => true | _ => false))) = true) :
    ∀ y ∈ scope.names, y.2 = .free → y.1 ∈ caps ∧ (X.env.scope.names.lookup y.1 = some .cell ∨ X.env.scope.names.lookup y.1 = some .free) := fun y hy e => by
  have z := List.all_eq_true.mp h y hy
  rw [e] at z
  have z : (caps.contains y.1 && (match X.env.scope.names.lookup y.1 with | some .cell => true | some .free => true | _ => false)) = true := by simpa using z
  obtain ⟨z1, z2⟩ := He.ba z
  exact ⟨by simpa using z1, cof_by z2⟩
theorem nofree_by {scope : Scope} (h : (scope.names.all fun y => !(y.2 == .free)) = true) : ∀ y ∈ scope.names, y.2 ≠ .free := fun y hy e => by
  have z := List.all_eq_true.mp h y hy
  rw [e] at z
  cases z
theorem mem_look {β : Type} {i : Nat} {x : β} : ∀ {l : List (Nat × β)}, l.lookup i = some x → (i, x) ∈ l
  | [], h => by cases h
  | (j, y) :: l, h => by
    rw [List.lookup_cons] at h
    by_cases e : i = j
    · subst e
      rw [beq_self_eq_true] at h
      cases h
      exact List.mem_cons_self
    · rw [beq_false_of_ne e] at h
      exact List.mem_cons_of_mem _ (mem_look h)
theorem tab_inv {K : PySem.W.Frag} {l : List (Nat × Str)} {id : Nat} {v : V} (e : ((l.lookup id).map fun x => V.ref (A K x)) = some v) : ∃ x, (id, x) ∈ l ∧ v = .ref (A K x) := by
  cases h : l.lookup id with
  | none => rw [h] at e; cases e
  | some x => rw [h] at e; cases e; exact ⟨x, mem_look h, rfl⟩
theorem clMem {α : Type} {l : List α} {is : List Nat} {d : α} (h : is.all (fun i => decide (i < l.length)) = true) (h0 : 0 < l.length) (c : Nat) : l.getD (is.getD c 0) d ∈ l := by
  have hi : is.getD c 0 < l.length := by
    rw [List.getD_eq_getElem?_getD]
    cases e : is[c]? with
    | none => exact h0
    | some i => exact of_decide_eq_true (List.all_eq_true.mp h i (List.mem_of_getElem? e))
  rw [List.getD_eq_getElem?_getD, List.getElem?_eq_getElem hi]
  exact List.getElem_mem hi
/-! ### tuples of the module -/
mutual
def tupV (K : PySem.W.Frag) : Nat → Value → D → Bool
  | _, .none, .non => true
  | _, .bool b, .bl c => b == c
  | _, .int i _, .int j => decide (i = j)
  | _, .str x _, .str y => decide (x = y)
  | n + 1, .ref a, .tup ds => (match K.lookup a with
    | some ⟨.type c, _, .seq its _, _⟩ => decide (c = "tuple") && (decide (its.size ≤ sizeLine) && tupVs K n its.toList ds)
    | _ => false)
  | _, _, _ => false
def tupVs (K : PySem.W.Frag) : Nat → List Value → List D → Bool
  | _, [], [] => true
  | n, u :: us, d :: ds => tupV K n u d && tupVs K n us ds
  | _, _, _ => false
end
def tupG (K : PySem.W.Frag) (x : Str) (d : D) : Bool := tupV K 5 (.ref (A K x)) d
theorem tupV_ok {K : PySem.W.Frag} : ∀ (n : Nat) (u : Value) (d : D), tupV K n u d = true → ∃ v, RelV v u ∧ ∀ (G : Gx) N μ H, Rp K G N μ H v d := by
  intro n
  induction n with
  | zero =>
    intro u d h
    unfold tupV at h
    split at h
    · exact ⟨.non, rfl, fun _ _ _ _ => .non⟩
    · exact ⟨.bl _, rfl, fun _ _ _ _ => by rw [eq_of_beq h]; exact .bl _⟩
    · exact ⟨.int _, ⟨_, rfl⟩, fun _ _ _ _ => by rw [of_decide_eq_true h]; exact .int _⟩
    · exact ⟨.str _, ⟨_, rfl⟩, fun _ _ _ _ => by rw [of_decide_eq_true h]; exact .str _⟩
    · rename_i e; cases e
    · cases h
  | succ n ih =>
    have hs : ∀ (us : List Value) (ds : List D), tupVs K n us ds = true → ∃ vs, Vals vs us ∧ ∀ (G : Gx) N μ H, Rps K G N μ H vs ds := by
      intro us
      induction us with
      | nil =>
        intro ds h
        cases ds with
        | nil => exact ⟨[], .nil, fun _ _ _ _ => .nil⟩
        | cons d ds => unfold tupVs at h; cases h
      | cons u us ihu =>
        intro ds h
        cases ds with
        | nil => unfold tupVs at h; cases h
        | cons d ds =>
          unfold tupVs at h
          obtain ⟨h1, h2⟩ := He.ba h
          obtain ⟨v, r, g⟩ := ih u d h1
          obtain ⟨vs, rs, gs⟩ := ihu ds h2
          exact ⟨v :: vs, .cons r rs, fun G N μ H => .cons (g G N μ H) (gs G N μ H)⟩
    intro u d h
    unfold tupV at h
    split at h
    · exact ⟨.non, rfl, fun _ _ _ _ => .non⟩
    · exact ⟨.bl _, rfl, fun _ _ _ _ => by rw [eq_of_beq h]; exact .bl _⟩
    · exact ⟨.int _, ⟨_, rfl⟩, fun _ _ _ _ => by rw [of_decide_eq_true h]; exact .int _⟩
    · exact ⟨.str _, ⟨_, rfl⟩, fun _ _ _ _ => by rw [of_decide_eq_true h]; exact .str _⟩
    · rename_i n' a ds hn
      cases hn
      split at h
      · rename_i c _ its _ _ lk
        obtain ⟨h1, h2⟩ := He.ba h
        obtain ⟨h2, h3⟩ := He.ba h2
        obtain ⟨vs, rs, g⟩ := hs _ _ h3
        refine ⟨.ref a, rfl, fun G N μ H => .tupK ⟨_, its, _, lk, ?_, rfl, of_decide_eq_true h2, rs⟩ (g G N μ H)⟩
        rw [of_decide_eq_true h1]
      · cases h
    · cases h
theorem tupG_ok {K : PySem.W.Frag} {x : Str} {d : D} (h : tupG K x d = true) (G : Gx) : ∀ N μ H, Rp K G N μ H (.ref (A K x)) d := by
  obtain ⟨v, r, g⟩ := tupV_ok _ _ _ h
  have e : v = .ref (A K x) := by
    cases v with
    | ref a => exact congrArg V.ref (Value.ref.inj r.symm)
    | non => cases r
    | bl b => cases r
    | int i => obtain ⟨t, r⟩ := r; cases r
    | str x => obtain ⟨t, r⟩ := r; cases r
    | byt x => obtain ⟨t, r⟩ := r; cases r
    | flt x => obtain ⟨t, r⟩ := r; cases r
    | ty x => cases r
  rw [← e]
  exact g G
end Iv
/-! Sh: the terms of the defs of all laws, each once. -/
namespace Sh
open PySem Iv
def b_common_of : FnI := ⟨2, 2,
      (.cons (.par2 0 1 (.bi .abs (.cons (.var 0) .nil)) (.bi .abs (.cons (.var 1) .nil)))
      (.cons (.while_ (.cmp .gt (.var 1) (.lit (.int 0)))
      (.cons (.par2 0 1 (.var 1) (.bin .mod (.var 0) (.var 1)))
      .nil))
      (.cons (.ret (.var 0))
      .nil)))⟩
def b_is_whole : FnI := ⟨3, 3,
      (.cons (.ret (.and (.isa .int (.var 0)) (.and (.not (.isa .bool (.var 0))) (.chain .le .le (.var 1) (.var 0) (.var 2)))))
      .nil)⟩
def b_is_fraction : FnI := ⟨1, 1,
      (.cons (.ite (.or (.not (.isa .tuple (.var 0))) (.cmp .ne (.bi .len (.cons (.var 0) .nil)) (.lit (.int 2))))
      (.cons (.ret (.lit (.bl false)))
      .nil)
      .nil)
      (.cons (.ite (.or (.not (.call 1 (.cons (.sub (.var 0) (.lit (.int 0))) (.cons (.neg (.lit (.int 1000000))) (.cons (.lit (.int 1000000)) .nil))))) (.not (.call 1 (.cons (.sub (.var 0) (.lit (.int 1))) (.cons (.lit (.int 1)) (.cons (.lit (.int 1000000)) .nil))))))
      (.cons (.ret (.lit (.bl false)))
      .nil)
      .nil)
      (.cons (.ret (.cmp .eq (.call 0 (.cons (.sub (.var 0) (.lit (.int 0))) (.cons (.sub (.var 0) (.lit (.int 1))) .nil))) (.lit (.int 1))))
      .nil)))⟩
def b_is_point : FnI := ⟨2, 1,
      (.cons (.ret (.and (.isa .tuple (.var 0)) (.and (.cmp .eq (.bi .len (.cons (.var 0) .nil)) (.lit (.int 2))) (.bi .all (.cons (.comp (.over (.var 0)) (.nm 1) [1] .none (.call 2 (.cons (.var 1) .nil))) .nil)))))
      .nil)⟩
def b_low_points : FnI := ⟨3, 2,
      (.cons (.asg (.nm 2) (.call 0 (.cons (.var 0) (.cons (.var 1) .nil))))
      (.cons (.asg (.nm 2) (.ite (.cmp .gt (.var 1) (.lit (.int 0))) (.var 2) (.neg (.var 2))))
      (.cons (.ret (.tup (.cons (.bin .fdiv (.var 0) (.var 2)) (.cons (.bin .fdiv (.var 1) (.var 2)) .nil))))
      .nil)))⟩
def b_minus : FnI := ⟨2, 2,
      (.cons (.ret (.call 4 (.cons (.bin .sub (.bin .mul (.sub (.var 0) (.lit (.int 0))) (.sub (.var 1) (.lit (.int 1)))) (.bin .mul (.sub (.var 1) (.lit (.int 0))) (.sub (.var 0) (.lit (.int 1))))) (.cons (.bin .mul (.sub (.var 0) (.lit (.int 1))) (.sub (.var 1) (.lit (.int 1)))) .nil))))
      .nil)⟩
def b_times : FnI := ⟨2, 2,
      (.cons (.ret (.call 4 (.cons (.bin .mul (.sub (.var 0) (.lit (.int 0))) (.sub (.var 1) (.lit (.int 0)))) (.cons (.bin .mul (.sub (.var 0) (.lit (.int 1))) (.sub (.var 1) (.lit (.int 1)))) .nil))))
      .nil)⟩
def b_turn_of : FnI := ⟨4, 3,
      (.cons (.asg (.nm 3) (.call 6 (.cons (.call 5 (.cons (.sub (.var 1) (.lit (.int 0))) (.cons (.sub (.var 0) (.lit (.int 0))) .nil))) (.cons (.call 5 (.cons (.sub (.var 2) (.lit (.int 1))) (.cons (.sub (.var 0) (.lit (.int 1))) .nil))) .nil))))
      (.cons (.ret (.call 5 (.cons (.var 3) (.cons (.call 6 (.cons (.call 5 (.cons (.sub (.var 1) (.lit (.int 1))) (.cons (.sub (.var 0) (.lit (.int 1))) .nil))) (.cons (.call 5 (.cons (.sub (.var 2) (.lit (.int 0))) (.cons (.sub (.var 0) (.lit (.int 0))) .nil))) .nil))) .nil))))
      .nil))⟩
def b_size_of : FnI := ⟨3, 1,
      (.cons (.asg (.p2 (.nm 1) (.nm 2)) (.call 7 (.cons (.sub (.var 0) (.lit (.int 0))) (.cons (.sub (.var 0) (.lit (.int 1))) (.cons (.sub (.var 0) (.lit (.int 2))) .nil)))))
      (.cons (.ret (.call 4 (.cons (.bi .abs (.cons (.var 1) .nil)) (.cons (.bin .mul (.lit (.int 2)) (.var 2)) .nil))))
      .nil))⟩
def b_is_good_triangle : FnI := ⟨2, 1,
      (.cons (.ite (.or (.not (.isa .tuple (.var 0))) (.or (.cmp .ne (.bi .len (.cons (.var 0) .nil)) (.lit (.int 3))) (.not (.bi .all (.cons (.comp (.over (.var 0)) (.nm 1) [1] .none (.call 3 (.cons (.var 1) .nil))) .nil)))))
      (.cons (.ret (.lit (.bl false)))
      .nil)
      .nil)
      (.cons (.ret (.and (.chain .lt .lt (.sub (.var 0) (.lit (.int 0))) (.sub (.var 0) (.lit (.int 1))) (.sub (.var 0) (.lit (.int 2)))) (.cmp .ne (.call 8 (.cons (.var 0) .nil)) (.tup (.cons (.lit (.int 0)) (.cons (.lit (.int 1)) .nil))))))
      .nil))⟩
def b_divides : FnI := ⟨3, 2,
      (.cons (.asg (.nm 2) (.lit (.int 0)))
      (.cons (.while_ (.cmp .eq (.bin .mod (.var 1) (.var 0)) (.lit (.int 0)))
      (.cons (.par2 1 2 (.bin .fdiv (.var 1) (.var 0)) (.bin .add (.var 2) (.lit (.int 1))))
      .nil))
      (.cons (.ret (.var 2))
      .nil)))⟩
def b_times_in : FnI := ⟨2, 2,
      (.cons (.ite (.cmp .eq (.sub (.var 1) (.lit (.int 0))) (.lit (.int 0)))
      (.cons (.ret (.lit .non))
      .nil)
      .nil)
      (.cons (.ret (.bin .sub (.call 10 (.cons (.var 0) (.cons (.sub (.var 1) (.lit (.int 0))) .nil))) (.call 10 (.cons (.var 0) (.cons (.sub (.var 1) (.lit (.int 1))) .nil)))))
      .nil))⟩
def b_hue_of : FnI := ⟨4, 2,
      (.cons (.par2 2 3 (.call 11 (.cons (.var 0) (.cons (.sub (.var 1) (.lit (.int 0))) .nil))) (.call 11 (.cons (.var 0) (.cons (.sub (.var 1) (.lit (.int 1))) .nil))))
      (.cons (.ite (.and (.cmp .isNot (.var 2) (.lit .non)) (.and (.cmp .le (.var 2) (.lit (.int 0))) (.or (.cmp .is (.var 3) (.lit .non)) (.cmp .le (.var 2) (.var 3)))))
      (.cons (.ret (.lit (.str (Str.ofString "b"))))
      .nil)
      .nil)
      (.cons (.ret (.ite (.and (.cmp .isNot (.var 3) (.lit .non)) (.cmp .le (.var 3) (.lit (.int 0)))) (.lit (.str (Str.ofString "c"))) (.lit (.str (Str.ofString "a")))))
      .nil)))⟩
def b_is_prime : FnI := ⟨2, 1,
      (.cons (.ret (.and (.call 1 (.cons (.var 0) (.cons (.lit (.int 2)) (.cons (.lit (.int 97)) .nil)))) (.bi .all (.cons (.comp (.range2 (.lit (.int 2)) (.var 0)) (.nm 1) [1] .none (.cmp .gt (.bin .mod (.var 0) (.var 1)) (.lit (.int 0)))) .nil))))
      .nil)⟩
def b_need_prime : FnI := ⟨1, 1,
      (.cons (.ite (.not (.call 13 (.cons (.var 0) .nil)))
      (.cons (.raise 3)
      .nil)
      .nil)
      .nil)⟩
def b_stands : FnI := ⟨2, 2,
      (.cons (.expr (.call 14 (.cons (.var 0) .nil)))
      (.cons (.ite (.not (.call 2 (.cons (.var 1) .nil)))
      (.cons (.raise 4)
      .nil)
      .nil)
      (.cons (.ret (.call 11 (.cons (.var 0) (.cons (.var 1) .nil))))
      .nil)))⟩
def b_hue : FnI := ⟨2, 2,
      (.cons (.expr (.call 14 (.cons (.var 0) .nil)))
      (.cons (.ite (.not (.call 3 (.cons (.var 1) .nil)))
      (.cons (.raise 5)
      .nil)
      .nil)
      (.cons (.ret (.call 12 (.cons (.var 0) (.cons (.var 1) .nil))))
      .nil)))⟩
def b_is_triangle : FnI := ⟨1, 1,
      (.cons (.ret (.call 9 (.cons (.var 0) .nil)))
      .nil)⟩
def b_size : FnI := ⟨1, 1,
      (.cons (.ite (.not (.call 9 (.cons (.var 0) .nil)))
      (.cons (.raise 6)
      .nil)
      .nil)
      (.cons (.ret (.call 8 (.cons (.var 0) .nil)))
      .nil))⟩
def b__law_vat : FnI := ⟨3, 2,
      (.cons (.asg (.nm 2) (.bin .add (.bin .mul (.lit (.int 7919)) (.var 1)) (.lit (.int 43))))
      (.cons (.ite (.cmp .lt (.var 1) (.bi .len (.cons (.var 0) .nil)))
      (.cons (.asg (.nm 2) (.bi .abs (.cons (.bi .int (.cons (.sub (.var 0) (.var 1)) .nil)) .nil)))
      .nil)
      .nil)
      (.cons (.retNew (.cons (.ite (.cmp .ge (.var 2) (.bin .pow (.lit (.int 10)) (.lit (.int 18)))) (.var 2) (.lit (.int 0))) (.cons (.bin .add (.bin .mod (.bi .int (.cons (.bin .add (.bin .add (.bin .mul (.var 2) (.lit (.int 131071))) (.bin .mul (.lit (.int 8191)) (.var 1))) (.lit (.int 5))) .nil)) (.lit (.int 2147483629))) (.lit (.int 1))) .nil)))
      .nil)))⟩
def b__law_under : FnI := ⟨4, 2,
      (.cons (.ite (.cmp .gt (.sub (.var 0) (.lit (.int 0))) (.lit (.int 0)))
      (.cons (.asg (.nm 2) (.bin .mod (.bi .int (.cons (.sub (.var 0) (.lit (.int 0))) .nil)) (.var 1)))
      (.cons (.setix (.var 0) (.lit (.int 0)) (.bin .fdiv (.sub (.var 0) (.lit (.int 0))) (.var 1)))
      (.cons (.ret (.var 2))
      .nil)))
      .nil)
      (.cons (.setix (.var 0) (.lit (.int 1)) (.bin .mod (.bi .int (.cons (.bin .add (.bin .mul (.sub (.var 0) (.lit (.int 1))) (.lit (.int 39373))) (.lit (.int 101))) .nil)) (.lit (.int 2147483629))))
      (.cons (.asg (.nm 3) (.bin .mod (.bi .int (.cons (.bin .mul (.sub (.var 0) (.lit (.int 1))) (.bin .add (.bin .fdiv (.sub (.var 0) (.lit (.int 1))) (.lit (.int 5))) (.lit (.int 9)))) .nil)) (.lit (.int 2147483587))))
      (.cons (.ret (.bin .mod (.bi .int (.cons (.bin .fdiv (.var 3) (.lit (.int 32))) .nil)) (.var 1)))
      .nil))))⟩
def b__law_some : FnI := ⟨2, 2,
      (.cons (.ret (.sub (.var 1) (.call 20 (.cons (.var 0) (.cons (.bi .len (.cons (.var 1) .nil)) .nil)))))
      .nil)⟩
def b__law_is_whole : FnI := ⟨3, 3,
      (.cons (.ret (.and (.isa .int (.var 0)) (.and (.not (.isa .bool (.var 0))) (.chain .le .le (.var 1) (.var 0) (.var 2)))))
      .nil)⟩
def b__law_truly : FnI := ⟨2, 2,
      (.cons (.ret (.and (.isa .bool (.var 0)) (.cmp .eq (.var 0) (.var 1))))
      .nil)⟩
def b__law_gcd : FnI := ⟨2, 2,
      (.cons (.while_ (.cmp .ne (.var 1) (.lit (.int 0)))
      (.cons (.par2 0 1 (.var 1) (.bin .mod (.var 0) (.var 1)))
      .nil))
      (.cons (.ret (.bi .abs (.cons (.var 0) .nil)))
      .nil))⟩
def b__law_low : FnI := ⟨3, 2,
      (.cons (.asg (.nm 2) (.bin .mul (.call 24 (.cons (.var 0) (.cons (.var 1) .nil))) (.ite (.cmp .gt (.var 1) (.lit (.int 0))) (.lit (.int 1)) (.neg (.lit (.int 1))))))
      (.cons (.ret (.tup (.cons (.bin .fdiv (.var 0) (.var 2)) (.cons (.bin .fdiv (.var 1) (.var 2)) .nil))))
      .nil))⟩
def b__law_sum : FnI := ⟨5, 1,
      (.cons (.asg (.p2 (.nm 1) (.nm 2)) (.tup (.cons (.lit (.int 0)) (.cons (.lit (.int 1)) .nil))))
      (.cons (.for_ (.p2 (.nm 3) (.nm 4)) (.over (.var 0))
      (.cons (.asg (.p2 (.nm 1) (.nm 2)) (.call 25 (.cons (.bin .add (.bin .mul (.var 1) (.var 4)) (.bin .mul (.var 3) (.var 2))) (.cons (.bin .mul (.var 2) (.var 4)) .nil))))
      .nil))
      (.cons (.ret (.tup (.cons (.var 1) (.cons (.var 2) .nil))))
      .nil)))⟩
def b__law_is_fraction : FnI := ⟨1, 1,
      (.cons (.ite (.or (.not (.isa .tuple (.var 0))) (.or (.cmp .ne (.bi .len (.cons (.var 0) .nil)) (.lit (.int 2))) (.not (.call 22 (.cons (.sub (.var 0) (.lit (.int 1))) (.cons (.lit (.int 1)) (.cons (.bin .pow (.lit (.int 10)) (.lit (.int 6))) .nil)))))))
      (.cons (.ret (.lit (.bl false)))
      .nil)
      .nil)
      (.cons (.ret (.and (.call 22 (.cons (.sub (.var 0) (.lit (.int 0))) (.cons (.neg (.bin .pow (.lit (.int 10)) (.lit (.int 6)))) (.cons (.bin .pow (.lit (.int 10)) (.lit (.int 6))) .nil)))) (.cmp .eq (.call 24 (.cons (.sub (.var 0) (.lit (.int 0))) (.cons (.sub (.var 0) (.lit (.int 1))) .nil))) (.lit (.int 1)))))
      .nil))⟩
def b__law_is_point : FnI := ⟨2, 1,
      (.cons (.ret (.and (.isa .tuple (.var 0)) (.and (.cmp .eq (.bi .len (.cons (.var 0) .nil)) (.lit (.int 2))) (.cmp .eq (.comp (.over (.var 0)) (.nm 1) [1] (.some (.not (.call 27 (.cons (.var 1) .nil)))) (.var 1)) (.lst .nil)))))
      .nil)⟩
def b__law_cross : FnI := ⟨7, 3,
      (.cons (.par2 3 4 (.call 26 (.cons (.lst (.cons (.sub (.var 1) (.lit (.int 0))) (.cons (.tup (.cons (.neg (.sub (.sub (.var 0) (.lit (.int 0))) (.lit (.int 0)))) (.cons (.sub (.sub (.var 0) (.lit (.int 0))) (.lit (.int 1))) .nil))) .nil))) .nil)) (.call 26 (.cons (.lst (.cons (.sub (.var 1) (.lit (.int 1))) (.cons (.tup (.cons (.neg (.sub (.sub (.var 0) (.lit (.int 1))) (.lit (.int 0)))) (.cons (.sub (.sub (.var 0) (.lit (.int 1))) (.lit (.int 1))) .nil))) .nil))) .nil)))
      (.cons (.par2 5 6 (.call 26 (.cons (.lst (.cons (.sub (.var 2) (.lit (.int 0))) (.cons (.tup (.cons (.neg (.sub (.sub (.var 0) (.lit (.int 0))) (.lit (.int 0)))) (.cons (.sub (.sub (.var 0) (.lit (.int 0))) (.lit (.int 1))) .nil))) .nil))) .nil)) (.call 26 (.cons (.lst (.cons (.sub (.var 2) (.lit (.int 1))) (.cons (.tup (.cons (.neg (.sub (.sub (.var 0) (.lit (.int 1))) (.lit (.int 0)))) (.cons (.sub (.sub (.var 0) (.lit (.int 1))) (.lit (.int 1))) .nil))) .nil))) .nil)))
      (.cons (.ret (.call 26 (.cons (.lst (.cons (.tup (.cons (.bin .mul (.sub (.var 3) (.lit (.int 0))) (.sub (.var 6) (.lit (.int 0)))) (.cons (.bin .mul (.sub (.var 3) (.lit (.int 1))) (.sub (.var 6) (.lit (.int 1)))) .nil))) (.cons (.tup (.cons (.bin .mul (.neg (.sub (.var 4) (.lit (.int 0)))) (.sub (.var 5) (.lit (.int 0)))) (.cons (.bin .mul (.sub (.var 4) (.lit (.int 1))) (.sub (.var 5) (.lit (.int 1)))) .nil))) .nil))) .nil)))
      .nil)))⟩
def b__law_size : FnI := ⟨3, 1,
      (.cons (.asg (.p2 (.nm 1) (.nm 2)) (.call 29 (.cons (.sub (.var 0) (.lit (.int 0))) (.cons (.sub (.var 0) (.lit (.int 1))) (.cons (.sub (.var 0) (.lit (.int 2))) .nil)))))
      (.cons (.ret (.call 25 (.cons (.bi .abs (.cons (.var 1) .nil)) (.cons (.bin .mul (.lit (.int 2)) (.var 2)) .nil))))
      .nil))⟩
def b__law_is_triangle : FnI := ⟨2, 1,
      (.cons (.ite (.or (.not (.isa .tuple (.var 0))) (.or (.cmp .ne (.bi .len (.cons (.var 0) .nil)) (.lit (.int 3))) (.cmp .ne (.comp (.over (.var 0)) (.nm 1) [1] (.some (.not (.call 28 (.cons (.var 1) .nil)))) (.var 1)) (.lst .nil))))
      (.cons (.ret (.lit (.bl false)))
      .nil)
      .nil)
      (.cons (.ret (.and (.cmp .eq (.bi .list (.cons (.var 0) .nil)) (.bi .sortedSetT (.cons (.var 0) .nil))) (.cmp .ne (.call 30 (.cons (.var 0) .nil)) (.tup (.cons (.lit (.int 0)) (.cons (.lit (.int 1)) .nil))))))
      .nil))⟩
def b__law_times : FnI := ⟨5, 2,
      (.cons (.asg (.p2 (.nm 2) (.p2 (.nm 3) (.nm 4))) (.tup (.cons (.lit (.int 0)) (.cons (.var 1) .nil))))
      (.cons (.while_ (.cmp .eq (.bin .mod (.var 3) (.var 0)) (.lit (.int 0)))
      (.cons (.par2 3 2 (.bin .fdiv (.var 3) (.var 0)) (.bin .add (.var 2) (.lit (.int 1))))
      .nil))
      (.cons (.while_ (.cmp .eq (.bin .mod (.var 4) (.var 0)) (.lit (.int 0)))
      (.cons (.par2 4 2 (.bin .fdiv (.var 4) (.var 0)) (.bin .sub (.var 2) (.lit (.int 1))))
      .nil))
      (.cons (.ret (.var 2))
      .nil))))⟩
def b__law_hue : FnI := ⟨4, 2,
      (.cons (.asg (.nm 2) (.comp (.over (.var 1)) (.nm 3) [3] .none (.ite (.cmp .eq (.sub (.var 3) (.lit (.int 0))) (.lit (.int 0))) (.bin .pow (.lit (.int 10)) (.lit (.int 9))) (.call 32 (.cons (.var 0) (.cons (.var 3) .nil))))))
      (.cons (.ite (.cmp .gt (.bi .minL (.cons (.var 2) .nil)) (.lit (.int 0)))
      (.cons (.ret (.lit (.str (Str.ofString "a"))))
      .nil)
      .nil)
      (.cons (.ret (.ite (.cmp .le (.sub (.var 2) (.lit (.int 0))) (.sub (.var 2) (.lit (.int 1)))) (.lit (.str (Str.ofString "b"))) (.lit (.str (Str.ofString "c")))))
      .nil)))⟩
def b__law_spoilt : FnI := ⟨4, 2,
      (.cons (.ite (.and (.isa .tuple (.var 1)) (.and (.cmp .ne (.var 1) (.tup .nil)) (.cmp .gt (.call 20 (.cons (.var 0) (.cons (.lit (.int 5)) .nil))) (.lit (.int 0)))))
      (.cons (.asg (.nm 2) (.call 20 (.cons (.var 0) (.cons (.bi .len (.cons (.var 1) .nil)) .nil))))
      (.cons (.ret (.bin .add (.bin .add (.slice (.var 1) .none (.some (.var 2))) (.tup (.cons (.call 34 (.cons (.var 0) (.cons (.sub (.var 1) (.var 2)) .nil))) .nil))) (.slice (.var 1) (.some (.bin .add (.var 2) (.lit (.int 1)))) .none)))
      .nil))
      .nil)
      (.cons (.asg (.nm 3) (.call 20 (.cons (.var 0) (.cons (.lit (.int 6)) .nil))))
      (.cons (.ite (.isa .tuple (.var 1))
      (.cons (.ret (.sub (.lst (.cons (.bi .list (.cons (.var 1) .nil)) (.cons (.slice (.var 1) (.some (.lit (.int 1))) .none) (.cons (.bin .add (.var 1) (.slice (.var 1) (.some (.neg (.lit (.int 1)))) .none)) (.cons (.rev (.var 1)) (.cons (.lit .non) (.cons (.tup (.cons (.var 1) (.cons (.var 1) .nil))) .nil))))))) (.var 3)))
      .nil)
      .nil)
      (.cons (.ite (.isa .int (.var 1))
      (.cons (.ret (.sub (.lst (.cons (.bin .add (.var 1) (.lit (.int 1))) (.cons (.bin .sub (.var 1) (.lit (.int 1))) (.cons (.bin .mul (.lit (.int 2)) (.var 1)) (.cons (.lit (.bl true)) (.cons (.lit .non) (.cons (.bi .str (.cons (.var 1) .nil)) .nil))))))) (.var 3)))
      .nil)
      .nil)
      (.cons (.ret (.lit .non))
      .nil)))))⟩
def b__law_error : FnI := ⟨2, 1,
      (.cons (.tryE false (.expr (.callv 0 .nil)))
      (.cons (.ret (.lit (.str (Str.ofString ""))))
      .nil))⟩
def b__law_all_refused : FnI := ⟨4, 3,
      (.cons (.ret (.cmp .eq (.comp (.over (.var 1)) (.nm 3) [3] (.some (.cmp .ne (.callc 36 0 [0, 3] .nil) (.var 2))) (.var 3)) (.lst .nil)))
      .nil)⟩
def b__law_known : FnI := ⟨6, 0,
      (.cons (.asg (.p4 (.nm 0) (.nm 1) (.nm 2) (.nm 3)) (.tup (.cons (.tup (.cons (.tup (.cons (.lit (.int 0)) (.cons (.lit (.int 1)) .nil))) (.cons (.tup (.cons (.lit (.int 0)) (.cons (.lit (.int 1)) .nil))) .nil))) (.cons (.tup (.cons (.tup (.cons (.lit (.int 0)) (.cons (.lit (.int 1)) .nil))) (.cons (.tup (.cons (.lit (.int 1)) (.cons (.lit (.int 1)) .nil))) .nil))) (.cons (.tup (.cons (.tup (.cons (.lit (.int 1)) (.cons (.lit (.int 1)) .nil))) (.cons (.tup (.cons (.lit (.int 0)) (.cons (.lit (.int 1)) .nil))) .nil))) (.cons (.tup (.cons (.tup (.cons (.lit (.int 1)) (.cons (.lit (.int 1)) .nil))) (.cons (.tup (.cons (.lit (.int 1)) (.cons (.lit (.int 1)) .nil))) .nil))) .nil))))))
      (.cons (.asg (.p2 (.nm 4) (.nm 5)) (.tup (.cons (.tup (.cons (.tup (.cons (.lit (.int 1)) (.cons (.lit (.int 2)) .nil))) (.cons (.tup (.cons (.lit (.int 0)) (.cons (.lit (.int 1)) .nil))) .nil))) (.cons (.tup (.cons (.tup (.cons (.lit (.int 1)) (.cons (.lit (.int 2)) .nil))) (.cons (.tup (.cons (.lit (.int 1)) (.cons (.lit (.int 1)) .nil))) .nil))) .nil))))
      (.cons (.ret (.tup (.cons (.tup (.cons (.tup (.cons (.var 0) (.cons (.var 1) (.cons (.var 2) .nil)))) (.cons (.tup (.cons (.var 1) (.cons (.var 2) (.cons (.var 3) .nil)))) .nil))) (.cons (.tup (.cons (.tup (.cons (.var 0) (.cons (.var 1) (.cons (.var 4) .nil)))) (.cons (.tup (.cons (.var 1) (.cons (.var 2) (.cons (.var 4) .nil)))) (.cons (.tup (.cons (.var 1) (.cons (.var 2) (.cons (.var 5) .nil)))) .nil)))) .nil))))
      .nil)))⟩
def b__law_bad_primes : FnI := ⟨0, 0,
      (.cons (.ret (.lst (.cons (.lit .non) (.cons (.lit (.int 1)) (.cons (.lit (.int 4)) (.cons (.lit (.int 0)) (.cons (.neg (.lit (.int 2))) (.cons (.lit (.int 101)) (.cons (.lit (.bl true)) (.cons (.lit (.str (Str.ofString "2"))) (.cons (.tup (.cons (.lit (.int 2)) .nil)) (.cons (.lit (.int 91)) .nil))))))))))))
      .nil)⟩
def b__law_fraction_01 : FnI := ⟨2, 1,
      (.cons (.asg (.nm 1) (.call 21 (.cons (.var 0) (.cons (.lst (.cons (.lit (.int 2)) (.cons (.lit (.int 5)) (.cons (.lit (.int 12)) (.cons (.lit (.int 1000)) (.cons (.bin .pow (.lit (.int 10)) (.lit (.int 6))) .nil)))))) .nil))))
      (.cons (.ret (.call 25 (.cons (.bin .sub (.call 20 (.cons (.var 0) (.cons (.bin .add (.bin .mul (.lit (.int 2)) (.var 1)) (.lit (.int 1))) .nil))) (.var 1)) (.cons (.bin .add (.lit (.int 1)) (.call 20 (.cons (.var 0) (.cons (.var 1) .nil)))) .nil))))
      .nil))⟩
def b__law_refused_01 : FnI := ⟨6, 0,
      (.cons (.for_ (.nm 0) (.over (.tup (.cons (.lit (.fn 15)) (.cons (.lit (.fn 16)) .nil))))
      (.cons (.ite (.not (.callc 37 1 [0] (.cons (.call 39 .nil) (.cons (.lit (.str (Str.ofString "prime value"))) .nil))))
      (.cons (.ret (.lit (.bl false)))
      .nil)
      .nil)
      .nil))
      (.cons (.asg (.nm 1) (.lst (.cons (.lit .non) (.cons (.tup (.cons (.lit (.int 1)) (.cons (.lit (.int 0)) .nil))) (.cons (.tup (.cons (.lit (.int 2)) (.cons (.lit (.int 4)) .nil))) (.cons (.lst (.cons (.lit (.int 1)) (.cons (.lit (.int 2)) .nil))) (.cons (.tup (.cons (.lit (.int 1)) .nil)) (.cons (.tup (.cons (.bin .add (.bin .pow (.lit (.int 10)) (.lit (.int 6))) (.lit (.int 1))) (.cons (.lit (.int 1)) .nil))) (.cons (.tup (.cons (.lit (.int 1)) (.cons (.bin .add (.bin .pow (.lit (.int 10)) (.lit (.int 6))) (.lit (.int 1))) .nil))) (.cons (.tup (.cons (.lit (.bl true)) (.cons (.lit (.int 1)) .nil))) (.cons (.tup (.cons (.lit (.int 0)) (.cons (.lit (.int 2)) .nil))) (.cons (.lit (.int 3)) (.cons (.lit (.str (Str.ofString "1/2"))) (.cons (.tup (.cons (.lit (.int 1)) (.cons (.neg (.lit (.int 2))) .nil))) .nil))))))))))))))
      (.cons (.ite (.not (.callc 37 2 [] (.cons (.var 1) (.cons (.lit (.str (Str.ofString "fraction value"))) .nil))))
      (.cons (.ret (.lit (.bl false)))
      .nil)
      .nil)
      (.cons (.asg (.nm 2) (.lst (.cons (.lit .non) (.cons (.tup (.cons (.tup (.cons (.lit (.int 0)) (.cons (.lit (.int 1)) .nil))) .nil)) (.cons (.tup (.cons (.tup (.cons (.lit (.int 0)) (.cons (.lit (.int 1)) .nil))) (.cons (.tup (.cons (.lit (.int 2)) (.cons (.lit (.int 4)) .nil))) .nil))) (.cons (.lst (.cons (.tup (.cons (.lit (.int 0)) (.cons (.lit (.int 1)) .nil))) (.cons (.tup (.cons (.lit (.int 0)) (.cons (.lit (.int 1)) .nil))) .nil))) (.cons (.tup (.cons (.tup (.cons (.lit (.int 0)) (.cons (.lit (.int 1)) .nil))) (.cons (.tup (.cons (.lit (.int 0)) (.cons (.lit (.int 1)) .nil))) (.cons (.tup (.cons (.lit (.int 0)) (.cons (.lit (.int 1)) .nil))) .nil)))) (.cons (.tup (.cons (.lit (.int 0)) (.cons (.lit (.int 1)) .nil))) (.cons (.tup (.cons (.tup (.cons (.lit (.int 0)) (.cons (.lit (.int 1)) .nil))) (.cons (.lit .non) .nil))) .nil)))))))))
      (.cons (.ite (.not (.callc 37 3 [] (.cons (.var 2) (.cons (.lit (.str (Str.ofString "point value"))) .nil))))
      (.cons (.ret (.lit (.bl false)))
      .nil)
      .nil)
      (.cons (.asg (.p2 (.nm 3) (.nm 4)) (.call 38 .nil))
      (.cons (.asg (.nm 5) (.lst (.cons (.lit .non) (.cons (.rev (.sub (.var 3) (.lit (.int 0)))) (.cons (.slice (.sub (.var 3) (.lit (.int 0))) .none (.some (.lit (.int 2)))) (.cons (.bi .list (.cons (.sub (.var 3) (.lit (.int 0))) .nil)) (.cons (.bin .mul (.tup (.cons (.sub (.sub (.var 3) (.lit (.int 0))) (.lit (.int 0))) .nil)) (.lit (.int 3))) (.cons (.var 3) (.cons (.bin .add (.sub (.var 3) (.lit (.int 0))) (.slice (.sub (.var 3) (.lit (.int 0))) .none (.some (.lit (.int 1))))) (.cons (.lit (.int 5)) .nil))))))))))
      (.cons (.ret (.call 37 (.cons (.lit (.fn 18)) (.cons (.var 5) (.cons (.lit (.str (Str.ofString "triangle value"))) .nil)))))
      .nil))))))))⟩
def b_law_01 : FnI := ⟨16, 1,
      (.cons (.for_ (.nm 1) (.range1 (.bi .max2 (.cons (.lit (.int 5)) (.cons (.bi .min2 (.cons (.lit (.int 11)) (.cons (.bi .len (.cons (.var 0) .nil)) .nil))) .nil))))
      (.cons (.asg (.nm 2) (.call 19 (.cons (.var 0) (.cons (.var 1) .nil))))
      (.cons (.for_ (.nm 3) (.range1 (.lit (.int 8)))
      (.cons (.par2 4 5 (.call 21 (.cons (.var 2) (.cons (.lst (.cons (.lit (.int 2)) (.cons (.lit (.int 2)) (.cons (.lit (.int 3)) (.cons (.lit (.int 5)) (.cons (.lit (.int 7)) (.cons (.lit (.int 11)) (.cons (.lit (.int 97)) .nil)))))))) .nil))) (.call 40 (.cons (.var 2) .nil)))
      (.cons (.ite (.cmp .ne (.call 15 (.cons (.var 4) (.cons (.var 5) .nil))) (.ite (.cmp .eq (.sub (.var 5) (.lit (.int 0))) (.lit (.int 0))) (.lit .non) (.call 32 (.cons (.var 4) (.cons (.var 5) .nil)))))
      (.cons (.ret (.lit (.bl false)))
      .nil)
      .nil)
      (.cons (.asg (.nm 6) (.tup (.cons (.call 40 (.cons (.var 2) .nil)) (.cons (.call 21 (.cons (.var 2) (.cons (.lst (.cons (.var 5) (.cons (.tup (.cons (.lit (.int 0)) (.cons (.lit (.int 1)) .nil))) (.cons (.tup (.cons (.lit (.int 1)) (.cons (.lit (.int 1)) .nil))) (.cons (.call 40 (.cons (.var 2) .nil)) .nil))))) .nil))) .nil))))
      (.cons (.ite (.cmp .ne (.call 16 (.cons (.var 4) (.cons (.var 6) .nil))) (.call 33 (.cons (.var 4) (.cons (.var 6) .nil))))
      (.cons (.ret (.lit (.bl false)))
      .nil)
      .nil)
      (.cons (.asg (.nm 7) (.bi .tuple (.cons (.bi .sorted (.cons (.comp (.range1 (.lit (.int 3))) (.nm 15) [15] .none (.tup (.cons (.call 40 (.cons (.var 2) .nil)) (.cons (.call 40 (.cons (.var 2) .nil)) .nil)))) .nil)) .nil)))
      (.cons (.ite (.and (.call 31 (.cons (.var 7) .nil)) (.cmp .ne (.call 18 (.cons (.var 7) .nil)) (.call 30 (.cons (.var 7) .nil))))
      (.cons (.ret (.lit (.bl false)))
      .nil)
      .nil)
      (.cons (.for_ (.nm 8) (.range1 (.lit (.int 5)))
      (.cons (.ite (.not (.call 23 (.cons (.call 17 (.cons (.var 7) .nil)) (.cons (.call 31 (.cons (.var 7) .nil)) .nil))))
      (.cons (.ret (.lit (.bl false)))
      .nil)
      .nil)
      (.cons (.asg (.nm 7) (.call 34 (.cons (.var 2) (.cons (.var 7) .nil))))
      .nil)))
      .nil))))))))
      .nil)))
      (.cons (.asg (.p2 (.nm 9) (.nm 10)) (.call 38 .nil))
      (.cons (.ite (.cmp .ne (.lst (.cons (.call 15 (.cons (.lit (.int 2)) (.cons (.tup (.cons (.lit (.int 3)) (.cons (.lit (.int 4)) .nil))) .nil))) (.cons (.call 15 (.cons (.lit (.int 2)) (.cons (.tup (.cons (.lit (.int 12)) (.cons (.lit (.int 5)) .nil))) .nil))) (.cons (.call 15 (.cons (.lit (.int 5)) (.cons (.tup (.cons (.lit (.int 12)) (.cons (.lit (.int 5)) .nil))) .nil))) (.cons (.call 15 (.cons (.lit (.int 3)) (.cons (.tup (.cons (.lit (.int 0)) (.cons (.lit (.int 1)) .nil))) .nil))) (.cons (.call 15 (.cons (.lit (.int 2)) (.cons (.tup (.cons (.neg (.lit (.int 8))) (.cons (.lit (.int 3)) .nil))) .nil))) .nil)))))) (.lst (.cons (.neg (.lit (.int 2))) (.cons (.lit (.int 2)) (.cons (.neg (.lit (.int 1))) (.cons (.lit .non) (.cons (.lit (.int 3)) .nil)))))))
      (.cons (.ret (.lit (.bl false)))
      .nil)
      .nil)
      (.cons (.asg (.p3 (.nm 11) (.nm 12) (.nm 13)) (.tup (.cons (.tup (.cons (.lit (.int 1)) (.cons (.lit (.int 2)) .nil))) (.cons (.tup (.cons (.lit (.int 0)) (.cons (.lit (.int 1)) .nil))) (.cons (.tup (.cons (.lit (.int 1)) (.cons (.lit (.int 1)) .nil))) .nil)))))
      (.cons (.asg (.nm 14) (.lst (.cons (.tup (.cons (.var 11) (.cons (.var 12) .nil))) (.cons (.tup (.cons (.var 12) (.cons (.var 12) .nil))) (.cons (.tup (.cons (.var 12) (.cons (.var 13) .nil))) (.cons (.tup (.cons (.var 13) (.cons (.var 13) .nil))) (.cons (.tup (.cons (.tup (.cons (.lit (.int 2)) (.cons (.lit (.int 3)) .nil))) (.cons (.tup (.cons (.lit (.int 1)) (.cons (.lit (.int 3)) .nil))) .nil))) (.cons (.tup (.cons (.var 11) (.cons (.tup (.cons (.lit (.int 1)) (.cons (.lit (.int 4)) .nil))) .nil))) (.cons (.tup (.cons (.tup (.cons (.lit (.int 2)) (.cons (.lit (.int 1)) .nil))) (.cons (.tup (.cons (.lit (.int 4)) (.cons (.lit (.int 3)) .nil))) .nil))) .nil)))))))))
      (.cons (.ite (.cmp .ne (.comp (.over (.var 14)) (.nm 6) [6] .none (.call 16 (.cons (.lit (.int 2)) (.cons (.var 6) .nil)))) (.lst (.cons (.lit (.str (Str.ofString "b"))) (.cons (.lit (.str (Str.ofString "a"))) (.cons (.lit (.str (Str.ofString "c"))) (.cons (.lit (.str (Str.ofString "b"))) (.cons (.lit (.str (Str.ofString "c"))) (.cons (.lit (.str (Str.ofString "c"))) (.cons (.lit (.str (Str.ofString "a"))) .nil)))))))))
      (.cons (.ret (.lit (.bl false)))
      .nil)
      .nil)
      (.cons (.ite (.cmp .ne (.lst (.cons (.call 17 (.cons (.sub (.var 9) (.lit (.int 0))) .nil)) (.cons (.call 17 (.cons (.rev (.sub (.var 9) (.lit (.int 0)))) .nil)) (.cons (.call 17 (.cons (.tup (.cons (.tup (.cons (.var 12) (.cons (.var 12) .nil))) (.cons (.tup (.cons (.var 11) (.cons (.var 11) .nil))) (.cons (.tup (.cons (.var 13) (.cons (.var 13) .nil))) .nil)))) .nil)) .nil)))) (.lst (.cons (.lit (.bl true)) (.cons (.lit (.bl false)) (.cons (.lit (.bl false)) .nil)))))
      (.cons (.ret (.lit (.bl false)))
      .nil)
      .nil)
      (.cons (.ret (.and (.cmp .eq (.call 18 (.cons (.sub (.var 9) (.lit (.int 0))) .nil)) (.tup (.cons (.lit (.int 1)) (.cons (.lit (.int 2)) .nil)))) (.and (.cmp .eq (.call 18 (.cons (.sub (.var 10) (.lit (.int 1))) .nil)) (.tup (.cons (.lit (.int 1)) (.cons (.lit (.int 4)) .nil)))) (.call 41 .nil))))
      .nil))))))))⟩
def l_0 : LamI := ⟨2, 0, 2, (.callv 0 (.cons (.var 1) .nil))⟩
def l_1 : LamI := ⟨2, 1, 1, (.callv 1 (.cons (.var 0) (.cons (.lit .non) .nil)))⟩
def l_2 : LamI := ⟨1, 1, 0, (.callE 15 (.cons (.lit (.int 2)) (.cons (.var 0) .nil)))⟩
def l_3 : LamI := ⟨1, 1, 0, (.callE 16 (.cons (.lit (.int 97)) (.cons (.var 0) .nil)))⟩
def b_plus : FnI := ⟨2, 2,
      (.cons (.ret (.call 4 (.cons (.bin .add (.bin .mul (.sub (.var 0) (.lit (.int 0))) (.sub (.var 1) (.lit (.int 1)))) (.bin .mul (.sub (.var 1) (.lit (.int 0))) (.sub (.var 0) (.lit (.int 1))))) (.cons (.bin .mul (.sub (.var 0) (.lit (.int 1))) (.sub (.var 1) (.lit (.int 1)))) .nil))))
      .nil)⟩
def b_weight_of : FnI := ⟨1, 1,
      (.cons (.ret (.bin .add (.sub (.var 0) (.lit (.int 0))) (.sub (.var 0) (.lit (.int 1)))))
      .nil)⟩
def b_total : FnI := ⟨3, 1,
      (.cons (.asg (.nm 1) (.lit (.tup [(.int 0), (.int 1)])))
      (.cons (.for_ (.nm 2) (.over (.var 0))
      (.cons (.asg (.nm 1) (.call 43 (.cons (.var 1) (.cons (.var 2) .nil))))
      .nil))
      (.cons (.ret (.var 1))
      .nil)))⟩
def b__law_corners : FnI := ⟨1, 1,
      (.cons (.ret (.tup (.cons (.tup (.cons (.tup (.cons (.lit (.int 0)) (.cons (.lit (.int 1)) .nil))) (.cons (.tup (.cons (.lit (.int 0)) (.cons (.lit (.int 1)) .nil))) .nil))) (.cons (.tup (.cons (.tup (.cons (.lit (.int 1)) (.cons (.lit (.int 1)) .nil))) (.cons (.tup (.cons (.lit (.int 0)) (.cons (.lit (.int 1)) .nil))) .nil))) (.cons (.tup (.cons (.var 0) (.cons (.tup (.cons (.lit (.int 1)) (.cons (.lit (.int 1)) .nil))) .nil))) (.cons (.tup (.cons (.tup (.cons (.lit (.int 0)) (.cons (.lit (.int 1)) .nil))) (.cons (.tup (.cons (.lit (.int 1)) (.cons (.lit (.int 1)) .nil))) .nil))) .nil))))))
      .nil)⟩
def b__law_share : FnI := ⟨1, 1,
      (.cons (.ret (.call 21 (.cons (.var 0) (.cons (.lst (.cons (.tup (.cons (.lit (.int 1)) (.cons (.lit (.int 1)) .nil))) (.cons (.tup (.cons (.lit (.int 1)) (.cons (.lit (.int 1)) .nil))) (.cons (.tup (.cons (.lit (.int 1)) (.cons (.lit (.int 2)) .nil))) (.cons (.tup (.cons (.lit (.int 2)) (.cons (.lit (.int 1)) .nil))) (.cons (.tup (.cons (.lit (.int 2)) (.cons (.lit (.int 3)) .nil))) (.cons (.tup (.cons (.lit (.int 3)) (.cons (.lit (.int 1)) .nil))) (.cons (.tup (.cons (.lit (.int 1)) (.cons (.lit (.int 4)) .nil))) (.cons (.tup (.cons (.lit (.int 5)) (.cons (.lit (.int 7)) .nil))) (.cons (.tup (.cons (.lit (.int 20)) (.cons (.lit (.int 19)) .nil))) (.cons (.tup (.cons (.lit (.int 1)) (.cons (.lit (.int 20)) .nil))) (.cons (.tup (.cons (.lit (.int 3)) (.cons (.lit (.int 5)) .nil))) .nil)))))))))))) .nil))))
      .nil)⟩
def b__law_halved : FnI := ⟨13, 4,
      (.cons (.asg (.nm 4) (.sub (.var 0) (.var 1)))
      (.cons (.asg (.p2 (.nm 5) (.nm 6)) (.bin .add (.slice (.var 4) .none (.some (.var 2))) (.slice (.var 4) (.some (.bin .add (.var 2) (.lit (.int 1)))) .none)))
      (.cons (.own 7 .nil)
      (.cons (.for_ (.p2 (.nm 8) (.nm 9)) (.zip (.var 5) (.var 6))
      (.cons (.asg (.nm 10) (.call 26 (.cons (.lst (.cons (.var 9) (.cons (.tup (.cons (.neg (.sub (.var 8) (.lit (.int 0)))) (.cons (.sub (.var 8) (.lit (.int 1))) .nil))) .nil))) .nil)))
      (.cons (.app 7 (.call 26 (.cons (.lst (.cons (.var 8) (.cons (.tup (.cons (.bin .mul (.sub (.var 10) (.lit (.int 0))) (.sub (.var 3) (.lit (.int 0)))) (.cons (.bin .mul (.sub (.var 10) (.lit (.int 1))) (.sub (.var 3) (.lit (.int 1)))) .nil))) .nil))) .nil)))
      .nil)))
      (.cons (.frz 7)
      (.cons (.asg (.nm 11) (.tup (.cons (.sub (.var 7) (.lit (.int 0))) (.cons (.sub (.var 7) (.lit (.int 1))) .nil))))
      (.cons (.asg (.nm 12) (.lst (.cons (.bi .tuple (.cons (.bi .sorted (.cons (.lst (.cons (.sub (.var 4) (.var 2)) (.cons (.var 5) (.cons (.var 11) .nil)))) .nil)) .nil)) (.cons (.bi .tuple (.cons (.bi .sorted (.cons (.lst (.cons (.sub (.var 4) (.var 2)) (.cons (.var 6) (.cons (.var 11) .nil)))) .nil)) .nil)) .nil))))
      (.cons (.ret (.bin .add (.bin .add (.bin .add (.slice (.var 0) .none (.some (.var 1))) (.tup (.cons (.sub (.var 12) (.lit (.int 0))) .nil))) (.slice (.var 0) (.some (.bin .add (.var 1) (.lit (.int 1)))) .none)) (.tup (.cons (.sub (.var 12) (.lit (.int 1))) .nil))))
      .nil))))))))⟩
def b__law_reached : FnI := ⟨3, 1,
      (.cons (.ret (.cmp .eq (.comp (.over (.var 0)) (.nm 1) [1] (.some (.cmp .ne (.comp (.over (.var 1)) (.nm 2) [2] (.some (.not (.call 28 (.cons (.var 2) .nil)))) (.var 2)) (.lst .nil))) (.lit (.int 1))) (.lst .nil)))
      .nil)⟩
def b__law_part : FnI := ⟨2, 1,
      (.cons (.asg (.nm 1) (.call 21 (.cons (.var 0) (.cons (.lst (.cons (.lit (.int 2)) (.cons (.lit (.int 2)) (.cons (.lit (.int 3)) (.cons (.lit (.int 3)) (.cons (.lit (.int 4)) (.cons (.lit (.int 5)) (.cons (.lit (.int 7)) (.cons (.lit (.int 100)) .nil))))))))) .nil))))
      (.cons (.ret (.call 25 (.cons (.bin .add (.lit (.int 1)) (.call 20 (.cons (.var 0) (.cons (.bin .sub (.var 1) (.lit (.int 1))) .nil)))) (.cons (.var 1) .nil))))
      .nil))⟩
def b__law_begin : FnI := ⟨5, 1,
      (.cons (.asg (.p4 (.nm 1) (.nm 2) (.nm 3) (.nm 4)) (.call 65 (.cons (.var 0) .nil)))
      (.cons (.ret (.tup (.cons (.bi .tuple (.cons (.bi .sorted (.cons (.lst (.cons (.var 1) (.cons (.var 2) (.cons (.var 4) .nil)))) .nil)) .nil)) (.cons (.bi .tuple (.cons (.bi .sorted (.cons (.lst (.cons (.var 2) (.cons (.var 3) (.cons (.var 4) .nil)))) .nil)) .nil)) .nil))))
      .nil))⟩
def b__law_cutting : FnI := ⟨11, 3,
      (.cons (.asg (.p4 (.nm 3) (.nm 4) (.nm 5) (.nm 6)) (.call 65 (.cons (.var 1) .nil)))
      (.cons (.asg (.nm 7) (.call 76 (.cons (.var 1) .nil)))
      (.cons (.ite (.cmp .eq (.call 20 (.cons (.var 0) (.cons (.lit (.int 3)) .nil))) (.lit (.int 0)))
      (.cons (.asg (.nm 7) (.tup (.cons (.bi .tuple (.cons (.bi .sorted (.cons (.lst (.cons (.var 3) (.cons (.var 4) (.cons (.var 5) .nil)))) .nil)) .nil)) (.cons (.bi .tuple (.cons (.bi .sorted (.cons (.lst (.cons (.var 3) (.cons (.var 5) (.cons (.var 6) .nil)))) .nil)) .nil)) .nil))))
      .nil)
      .nil)
      (.cons (.for_ (.nm 8) (.range1 (.call 20 (.cons (.var 0) (.cons (.bi .max2 (.cons (.lit (.int 1)) (.cons (.bin .sub (.var 2) (.lit (.int 1))) .nil))) .nil))))
      (.cons (.asg (.nm 9) (.call 73 (.cons (.var 7) (.cons (.call 20 (.cons (.var 0) (.cons (.bi .len (.cons (.var 7) .nil)) .nil))) (.cons (.call 20 (.cons (.var 0) (.cons (.lit (.int 3)) .nil))) (.cons (.call 75 (.cons (.var 0) .nil)) .nil))))))
      (.cons (.asg (.nm 7) (.ite (.call 74 (.cons (.var 9) .nil)) (.var 9) (.var 7)))
      .nil)))
      (.cons (.asg (.nm 10) (.call 20 (.cons (.var 0) (.cons (.bi .len (.cons (.var 7) .nil)) .nil))))
      (.cons (.ret (.bin .add (.slice (.var 7) (.some (.var 10)) .none) (.slice (.var 7) .none (.some (.var 10)))))
      .nil))))))⟩
end Sh
/-! Ev: the evaluator by rules, an end at a time. -/
namespace Iv
open PySem Sh
section
variable {Φ : Nat → Option FnI} {Λ : Nat → Option LamI} {nm : Names} {F n f : Nat} {S S0 S1 S2 S3 S4 : Store} {C : D → List D → Store → Rs D} {ρ ρ1 ρ2 ρ3 ρ4 : Iv.Env}
theorem call_fn {fi : FnI} {ds : List D} (h : Φ f = some fi) (hl : ds.length = fi.pars) : callF Φ Λ nm F (n + 1) (.fn f) ds S = (evSs (callF Φ Λ nm F n) nm F fi.body (frame fi ds) S).bind fun o S1 => match o with
    | .next _ => .ok .non S1
    | .ret d => .ok d S1 := by
  rw [callF, h]
  exact if_pos hl
/-- a call that returns -/
theorem call_ret {sl p : Nat} {b : Sxs} {ds : List D} {d : D} (h : Φ f = some ⟨sl, p, b⟩) (hl : ds.length = p) (e : evSs (callF Φ Λ nm F n) nm F b (frameN sl ds) S = .ok (.ret d) S1) : callF Φ Λ nm F (n + 1) (.fn f) ds S = .ok d S1 := by
  rw [call_fn h hl, e]; rfl
theorem call_end' {sl p : Nat} {b : Sxs} {ds : List D} {ρ' : Iv.Env} (h : Φ f = some ⟨sl, p, b⟩) (hl : ds.length = p) (e : evSs (callF Φ Λ nm F n) nm F b (frameN sl ds) S = .ok (.next ρ') S1) : callF Φ Λ nm F (n + 1) (.fn f) ds S = .ok .non S1 := by
  rw [call_fn h hl, e]; rfl
theorem call_exc {sl p : Nat} {b : Sxs} {ds : List D} {c : Nat} (h : Φ f = some ⟨sl, p, b⟩) (hl : ds.length = p) (e : evSs (callF Φ Λ nm F n) nm F b (frameN sl ds) S = .exc c S1) : callF Φ Λ nm F (n + 1) (.fn f) ds S = .exc c S1 := by
  rw [call_fn h hl, e]; rfl
/-! expressions -/
theorem E_lit {d : D} : evE C (.lit d) ρ S = .ok d S := rfl
theorem E_var {i : Nat} {d : D} (h : slotD ρ i = some d) : evE C (.var i) ρ S = .ok d S := by rw [evE, h]; rfl
theorem E_tup {es : Exs} {ds : List D} (h : evEs C es ρ S = .ok ds S1) (hl : Nat.ble ds.length big = true) : evE C (.tup es) ρ S = .ok (.tup ds) S1 := by rw [evE, h]; exact if_pos (Nat.le_of_ble_eq_true hl)
theorem E_lst {es : Exs} {ds : List D} (h : evEs C es ρ S = .ok ds S1) (hl : Nat.ble ds.length big = true) : evE C (.lst es) ρ S = .ok (.lst ds) S1 := by rw [evE, h]; exact if_pos (Nat.le_of_ble_eq_true hl)
theorem Es_nil : evEs C .nil ρ S = .ok [] S := rfl
theorem Es_cons {e : Ex} {es : Exs} {d : D} {ds : List D} (h : evE C e ρ S = .ok d S1) (h2 : evEs C es ρ S1 = .ok ds S2) : evEs C (.cons e es) ρ S = .ok (d :: ds) S2 := by
  rw [evEs, h]; show Rs.bind (evEs C es ρ S1) _ = _; rw [h2]; rfl
theorem E_bin {op : BOp} {a b : Ex} {x y d : D} (h : evE C a ρ S = .ok x S1) (h2 : evE C b ρ S1 = .ok y S2) (h3 : binO op x y = some d) : evE C (.bin op a b) ρ S = .ok d S2 := by
  rw [evE, h]; show Rs.bind (evE C b ρ S1) _ = _; rw [h2]; show Rs.of (binO op x y) S2 = _; rw [h3]; rfl
theorem B_add {i j : Int} : binO .add (.int i) (.int j) = some (.int (i + j)) := rfl
theorem B_sub {i j : Int} : binO .sub (.int i) (.int j) = some (.int (i - j)) := rfl
theorem B_mul {i j : Int} (h : mulOk i j = true) : binO .mul (.int i) (.int j) = some (.int (i * j)) := if_pos h
theorem B_mod {i j : Int} (h : j ≠ 0) : binO .mod (.int i) (.int j) = some (.int (i.fmod j)) := if_neg h
theorem B_fdiv {i j : Int} (h : j ≠ 0) (h2 : j.natAbs.log2 < 9000) : binO .fdiv (.int i) (.int j) = some (.int (i.fdiv j)) := if_pos (by rw [Bool.and_eq_true]; exact ⟨decide_eq_true h, decide_eq_true h2⟩)
theorem E_neg {a : Ex} {i : Int} (h : evE C a ρ S = .ok (.int i) S1) : evE C (.neg a) ρ S = .ok (.int (-i)) S1 := by rw [evE, h]; rfl
theorem E_not {a : Ex} {x : D} {k : Bool} (h : evE C a ρ S = .ok x S1) (h2 : truth x = some k) : evE C (.not a) ρ S = .ok (.bl (!k)) S1 := by
  rw [evE, h]; show (match truth x with | some b => Rs.ok (D.bl (!b)) S1 | none => .bad) = _; rw [h2]
theorem E_and_t {a b : Ex} {x : D} {r : Rs D} (h : evE C a ρ S = .ok x S1) (h2 : truth x = some true) (h3 : evE C b ρ S1 = r) : evE C (.and a b) ρ S = r := by
  rw [evE, h]; show (match truth x with | some true => evE C b ρ S1 | some false => Rs.ok x S1 | none => .bad) = _; rw [h2]; exact h3
theorem E_and_f {a b : Ex} {x : D} (h : evE C a ρ S = .ok x S1) (h2 : truth x = some false) : evE C (.and a b) ρ S = .ok x S1 := by
  rw [evE, h]; show (match truth x with | some true => evE C b ρ S1 | some false => Rs.ok x S1 | none => .bad) = _; rw [h2]
theorem E_and_b {a b : Ex} {k k2 : Bool} (h : evE C a ρ S = .ok (.bl k) S1) (h2 : evE C b ρ S1 = .ok (.bl k2) S1) : evE C (.and a b) ρ S = .ok (.bl (k && k2)) S1 := by
  cases k
  · exact E_and_f h rfl
  · exact E_and_t h rfl h2
theorem E_or_t {a b : Ex} {x : D} (h : evE C a ρ S = .ok x S1) (h2 : truth x = some true) : evE C (.or a b) ρ S = .ok x S1 := by
  rw [evE, h]; show (match truth x with | some true => Rs.ok x S1 | some false => evE C b ρ S1 | none => .bad) = _; rw [h2]
theorem E_or_f {a b : Ex} {x : D} {r : Rs D} (h : evE C a ρ S = .ok x S1) (h2 : truth x = some false) (h3 : evE C b ρ S1 = r) : evE C (.or a b) ρ S = r := by
  rw [evE, h]; show (match truth x with | some true => Rs.ok x S1 | some false => evE C b ρ S1 | none => .bad) = _; rw [h2]; exact h3
theorem E_or_b {a b : Ex} {k k2 : Bool} (h : evE C a ρ S = .ok (.bl k) S1) (h2 : evE C b ρ S1 = .ok (.bl k2) S1) : evE C (.or a b) ρ S = .ok (.bl (k || k2)) S1 := by
  cases k
  · exact E_or_f h rfl h2
  · exact E_or_t h rfl
theorem E_cmp {op : COp} {a b : Ex} {x y : D} {k : Bool} (h : evE C a ρ S = .ok x S1) (h2 : evE C b ρ S1 = .ok y S2) (h3 : cmpO op x y = some k) : evE C (.cmp op a b) ρ S = .ok (.bl k) S2 := by
  rw [evE, h]; show Rs.bind (evE C b ρ S1) _ = _; rw [h2]; show (match cmpO op x y with | some k => Rs.ok (D.bl k) S2 | none => .bad) = _; rw [h3]
theorem E_chain {o1 o2 : COp} {a b c : Ex} {x y z : D} {k k2 : Bool} (h : evE C a ρ S = .ok x S1) (h2 : evE C b ρ S1 = .ok y S2) (h3 : cmpO o1 x y = some k) (h4 : evE C c ρ S2 = .ok z S2) (h5 : cmpO o2 y z = some k2) : evE C (.chain o1 o2 a b c) ρ S = .ok (.bl (k && k2)) S2 := by
  rw [evE, h]; show Rs.bind (evE C b ρ S1) _ = _; rw [h2]
  show (match cmpO o1 x y with
    | some true => (evE C c ρ S2).bind fun z S3 => match cmpO o2 y z with | some k => Rs.ok (D.bl k) S3 | none => .bad
    | some false => Rs.ok (D.bl false) S2
    | none => .bad) = _
  rw [h3]
  cases k
  · rfl
  · show Rs.bind (evE C c ρ S2) _ = _
    rw [h4]; show (match cmpO o2 y z with | some k => Rs.ok (D.bl k) S2 | none => .bad) = _; rw [h5]; rfl
theorem E_ite_t {c a b : Ex} {x : D} {r : Rs D} (h : evE C c ρ S = .ok x S1) (h2 : truth x = some true) (h3 : evE C a ρ S1 = r) : evE C (.ite c a b) ρ S = r := by
  rw [evE, h]; show (match truth x with | some true => evE C a ρ S1 | some false => evE C b ρ S1 | none => .bad) = _; rw [h2]; exact h3
theorem E_ite_f {c a b : Ex} {x : D} {r : Rs D} (h : evE C c ρ S = .ok x S1) (h2 : truth x = some false) (h3 : evE C b ρ S1 = r) : evE C (.ite c a b) ρ S = r := by
  rw [evE, h]; show (match truth x with | some true => evE C a ρ S1 | some false => evE C b ρ S1 | none => .bad) = _; rw [h2]; exact h3
theorem E_ite_b {c a b : Ex} {x d e : D} {k : Bool} (h : evE C c ρ S = .ok x S1) (h2 : truth x = some k) (h3 : k = true → evE C a ρ S1 = .ok d S2) (h4 : k = false → evE C b ρ S1 = .ok e S2) : evE C (.ite c a b) ρ S = .ok (if k then d else e) S2 := by
  cases k
  · exact E_ite_f h h2 (h4 rfl)
  · exact E_ite_t h h2 (h3 rfl)
theorem E_sub {a b : Ex} {x y d : D} (h : evE C a ρ S = .ok x S1) (h2 : evE C b ρ S1 = .ok y S2) (h3 : subO (deref S2 x) y = some d) : evE C (.sub a b) ρ S = .ok d S2 := by
  rw [evE, h]; show Rs.bind (evE C b ρ S1) _ = _; rw [h2]; show Rs.of (subO (deref S2 x) y) S2 = _; rw [h3]; rfl
theorem O_none : evO C .none ρ S = .ok none S := rfl
theorem O_some {e : Ex} {i : Int} (h : evE C e ρ S = .ok (.int i) S1) : evO C (.some e) ρ S = .ok (some i) S1 := by rw [evO, h]; rfl
theorem E_slice {a : Ex} {lo hi : Oex} {x d : D} {l h' : Option Int} (h : evE C a ρ S = .ok x S1) (h1 : evO C lo ρ S1 = .ok l S2) (h2 : evO C hi ρ S2 = .ok h' S3) (h3 : sliceO x l h' = some d) : evE C (.slice a lo hi) ρ S = .ok d S3 := by
  rw [evE, h]; show Rs.bind (evO C lo ρ S1) _ = _; rw [h1]; show Rs.bind (evO C hi ρ S2) _ = _; rw [h2]; show Rs.of (sliceO x l h') S3 = _; rw [h3]; rfl
theorem E_rev {a : Ex} {x d : D} (h : evE C a ρ S = .ok x S1) (h3 : revO x = some d) : evE C (.rev a) ρ S = .ok d S1 := by
  rw [evE, h]; show Rs.of (revO x) S1 = _; rw [h3]; rfl
theorem E_isa {t : Ty} {a : Ex} {x : D} {k : Bool} (h : evE C a ρ S = .ok x S1) (h3 : isa t x = some k) : evE C (.isa t a) ρ S = .ok (.bl k) S1 := by
  rw [evE, h]; show (match isa t x with | some k => Rs.ok (D.bl k) S1 | none => .bad) = _; rw [h3]
theorem E_bi {g : Bi} {es : Exs} {ds : List D} {d : D} (h : evEs C es ρ S = .ok ds S1) (h3 : biO g ds = some d) : evE C (.bi g es) ρ S = .ok d S1 := by
  rw [evE, h]; show Rs.of (biO g ds) S1 = _; rw [h3]; rfl
theorem E_call {g : Nat} {es : Exs} {ds : List D} {r : Rs D} (h : evEs C es ρ S = .ok ds S1) (h2 : C (.fn g) ds S1 = r) : evE C (.call g es) ρ S = r := by
  rw [evE, h]; exact h2
theorem E_callE {g : Nat} {es : Exs} {ds : List D} {r : Rs D} (h : evEs C es ρ S = .ok ds S1) (nc : noClos ds = true) (h2 : C (.fn g) ds S1 = r) : evE C (.callE g es) ρ S = r := by
  rw [evE, h]; show (if noClos ds then C (.fn g) ds S1 else .bad) = r; rw [if_pos nc]; exact h2
theorem E_callv {i : Nat} {es : Exs} {g : D} {ds : List D} {r : Rs D} (hs : slotD ρ i = some g) (hf : isFn g = true) (h : evEs C es ρ S = .ok ds S1) (nc : noClos ds = true) (h2 : C g ds S1 = r) : evE C (.callv i es) ρ S = r := by
  rw [evE, hs]; show (if isFn g then (evEs C es ρ S).bind fun ds S1 => if noClos ds then C g ds S1 else .bad else .bad) = r
  rw [if_pos hf, h]; show (if noClos ds then C g ds S1 else .bad) = r; rw [if_pos nc]; exact h2
theorem E_callc {g l : Nat} {is : List Nat} {es : Exs} {cs ds : List D} {d : D} (hc : capsOf ρ is = some cs) (h : evEs C es ρ S = .ok ds S1) (h2 : C (.fn g) (.clo l cs :: ds) S1 = .ok d S2) (nc : noClo d = true) : evE C (.callc g l is es) ρ S = .ok d S2 := by
  rw [evE, hc]; show (evEs C es ρ S).bind _ = _
  rw [h]; show (C (.fn g) (.clo l cs :: ds) S1).bind _ = _
  rw [h2]; exact if_pos nc
theorem E_lam {l : Nat} : evE C (.lam l) ρ S = .ok (.clo l []) S := rfl
theorem C_none : evC C .none ρ S = .ok true S := rfl
theorem C_some {e : Ex} {x : D} {k : Bool} (h : evE C e ρ S = .ok x S1) (h2 : truth x = some k) : evC C (.some e) ρ S = .ok k S1 := by
  rw [evC, h]; show (match truth x with | some b => Rs.ok b S1 | none => .bad) = _; rw [h2]
theorem I_over {e : Ex} {x : D} {xs : List D} (h : evE C e ρ S = .ok x S1) (h2 : seqOf x = some xs) : evI C (.over e) ρ S = .ok xs S1 := by
  rw [evI, h]; show Rs.of (seqOf x) S1 = _; rw [h2]; rfl
theorem I_range1 {a : Ex} {i : Int} {xs : List D} (h : evE C a ρ S = .ok (.int i) S1) (h2 : rng 0 i = some xs) : evI C (.range1 a) ρ S = .ok xs S1 := by
  rw [evI, h]; show Rs.of (rng 0 i) S1 = _; rw [h2]; rfl
theorem I_range2 {a b : Ex} {i j : Int} {xs : List D} (h : evE C a ρ S = .ok (.int i) S1) (h' : evE C b ρ S1 = .ok (.int j) S2) (h2 : rng i j = some xs) : evI C (.range2 a b) ρ S = .ok xs S2 := by
  rw [evI, h]; show Rs.bind (evE C b ρ S1) _ = _; rw [h']; show Rs.of (rng i j) S2 = _; rw [h2]; rfl
theorem I_zip_l {a b : Ex} {xs ys : List D} (h : evE C a ρ S = .ok (.lst xs) S1) (h' : evE C b ρ S1 = .ok (.lst ys) S2) : evI C (.zip a b) ρ S = .ok (zips xs ys) S2 := by
  rw [evI, h]; show Rs.bind (evE C b ρ S1) _ = _; rw [h']; rfl
theorem I_zip_t {a b : Ex} {xs ys : List D} (h : evE C a ρ S = .ok (.tup xs) S1) (h' : evE C b ρ S1 = .ok (.tup ys) S2) : evI C (.zip a b) ρ S = .ok (zips xs ys) S2 := by
  rw [evI, h]; show Rs.bind (evE C b ρ S1) _ = _; rw [h']; rfl
theorem I_enum {a : Ex} {x : D} {xs : List D} (h : evE C a ρ S = .ok x S1) (h2 : seqOf x = some xs) : evI C (.enum a) ρ S = .ok (enums 0 xs) S1 := by
  rw [evI, h]; show (match seqOf x with | some xs => Rs.ok (enums 0 xs) S1 | none => .bad) = _; rw [h2]
theorem E_comp {it : Itx} {p : Pt} {own : List Nat} {c : Oex} {e : Ex} {xs ds : List D} (h : evI C it ρ S = .ok xs S1) (h2 : compLoop p (wipes ρ own) (elemB (fun ρ1 S => evC C c ρ1 S) (fun ρ1 S => evE C e ρ1 S)) xs S1 = .ok ds S2) (hl : ds.length ≤ big) : evE C (.comp it p own c e) ρ S = .ok (.lst ds) S2 := by
  rw [evE, h]
  show (match compLoop p (wipes ρ own) (elemB (fun ρ1 S => evC C c ρ1 S) (fun ρ1 S => evE C e ρ1 S)) xs S1 with | Rs.ok ds S2 => if ds.length ≤ big then Rs.ok (D.lst ds) S2 else .bad | _ => .bad) = _
  rw [h2]; exact if_pos hl
theorem E_comp2 {it it2 : Itx} {p p2 : Pt} {own : List Nat} {c : Oex} {e : Ex} {xs ds : List D} (h : evI C it ρ S = .ok xs S1) (h2 : compLoop2 p (wipes ρ own) (elem2 (fun ρ1 S => evI C it2 ρ1 S) p2 (elemB (fun ρ1 S => evC C c ρ1 S) (fun ρ1 S => evE C e ρ1 S))) xs S1 = .ok ds S2) (hl : ds.length ≤ big) : evE C (.comp2 it p it2 p2 own c e) ρ S = .ok (.lst ds) S2 := by
  rw [evE, h]
  show (match compLoop2 p (wipes ρ own) (elem2 (fun ρ1 S => evI C it2 ρ1 S) p2 (elemB (fun ρ1 S => evC C c ρ1 S) (fun ρ1 S => evE C e ρ1 S))) xs S1 with | Rs.ok ds S2 => if ds.length ≤ big then Rs.ok (D.lst ds) S2 else .bad | _ => .bad) = _
  rw [h2]; exact if_pos hl
/-- one turn, without a test -/
theorem elem_1 {fc : Iv.Env → Store → Rs Bool} {fe : Iv.Env → Store → Rs D} {d : D} (h : fc ρ S = .ok true S1) (h2 : fe ρ S1 = .ok d S2) : elemB fc fe ρ S = .ok (some d) S2 := by
  unfold elemB; rw [h]; show (match fe ρ S1 with | Rs.ok d S2 => Rs.ok (some d) S2 | _ => .bad) = _; rw [h2]
theorem elem_0 {fc : Iv.Env → Store → Rs Bool} {fe : Iv.Env → Store → Rs D} (h : fc ρ S = .ok false S1) : elemB fc fe ρ S = .ok none S1 := by
  unfold elemB; rw [h]
theorem elem_b {fc : Iv.Env → Store → Rs Bool} {fe : Iv.Env → Store → Rs D} {k : Bool} {d : D} (h : fc ρ S = .ok k S1) (h2 : k = true → fe ρ S1 = .ok d S1) : elemB fc fe ρ S = .ok (if k then some d else none) S1 := by
  cases k
  · exact elem_0 h
  · exact elem_1 h (h2 rfl)
/-- a comprehension that leaves the store as it is -/
theorem compLoop_map {α : Type} {g : α → D} {f : Iv.Env → Store → Rs (Option D)} {p : Pt} (k : α → Option D) : ∀ {l : List α}, (∀ a ∈ l, ∃ ρ1, p.put (g a) ρ = some ρ1 ∧ f ρ1 S = .ok (k a) S) → compLoop p ρ f (l.map g) S = .ok (l.filterMap k) S
  | [], _ => rfl
  | a :: l, h => by
    obtain ⟨ρ1, h1, h2⟩ := h a (by simp)
    have ih := compLoop_map (l := l) k fun b hb => h b (List.mem_cons_of_mem _ hb)
    rw [List.map_cons, compLoop, h1]
    show (match f ρ1 S with | Rs.ok (some d) S1 => (match compLoop p ρ f (l.map g) S1 with | Rs.ok ds S2 => Rs.ok (d :: ds) S2 | _ => .bad) | Rs.ok none S1 => compLoop p ρ f (l.map g) S1 | _ => .bad) = _
    rw [h2, List.filterMap_cons]
    cases k a with
    | none => exact ih
    | some d => show (match compLoop p ρ f (l.map g) S with | Rs.ok ds S2 => Rs.ok (d :: ds) S2 | _ => .bad) = _; rw [ih]
/-- .. that gives an item each turn -/
theorem compLoop_all {α : Type} {g : α → D} {f : Iv.Env → Store → Rs (Option D)} {p : Pt} (k : α → D) {l : List α} (h : ∀ a ∈ l, ∃ ρ1, p.put (g a) ρ = some ρ1 ∧ f ρ1 S = .ok (some (k a)) S) : compLoop p ρ f (l.map g) S = .ok (l.map k) S := by
  rw [compLoop_map (fun a => some (k a)) h]
  congr 1
  clear h
  induction l with
  | nil => rfl
  | cons a l ih => rw [List.filterMap_cons, List.map_cons, ih]
/-- .. that lets items by -/
theorem compLoop_filter {α : Type} {g : α → D} {f : Iv.Env → Store → Rs (Option D)} {p : Pt} (q : α → Bool) (k : α → D) {l : List α} (h : ∀ a ∈ l, ∃ ρ1, p.put (g a) ρ = some ρ1 ∧ f ρ1 S = .ok (if q a then some (k a) else none) S) : compLoop p ρ f (l.map g) S = .ok ((l.filter q).map k) S := by
  rw [compLoop_map (fun a => if q a then some (k a) else none) h]
  congr 1
  clear h
  induction l with
  | nil => rfl
  | cons a l ih => cases e : q a <;> simp [List.filterMap_cons, List.filter_cons, e, ih]
/-! tests -/
theorem T_of {e : Ex} {x : D} {k : Bool} (h : evE C e ρ S = .ok x S1) (h2 : truth x = some k) : evT C e ρ S = .ok k S1 := by
  unfold evT; rw [h]; show (match truth x with | some b => Rs.ok b S1 | none => .bad) = _; rw [h2]
/-! statements -/
theorem Ss_nil : evSs C nm F .nil ρ S = .ok (.next ρ) S := rfl
theorem Ss_cons {s : Sx} {ss : Sxs} {r : Rs Ou} (h : evS C nm F s ρ S = .ok (.next ρ1) S1) (h2 : evSs C nm F ss ρ1 S1 = r) : evSs C nm F (.cons s ss) ρ S = r := by
  rw [evSs, h]; exact h2
theorem Ss_ret {s : Sx} {ss : Sxs} {d : D} (h : evS C nm F s ρ S = .ok (.ret d) S1) : evSs C nm F (.cons s ss) ρ S = .ok (.ret d) S1 := by
  rw [evSs, h]; rfl
theorem Ss_exc {s : Sx} {ss : Sxs} {c : Nat} (h : evS C nm F s ρ S = .exc c S1) : evSs C nm F (.cons s ss) ρ S = .exc c S1 := by
  rw [evSs, h]; rfl
theorem S_ret {e : Ex} {d : D} (h : evE C e ρ S = .ok d S1) : evS C nm F (.ret e) ρ S = .ok (.ret d) S1 := by rw [evS, h]; rfl
theorem S_asg {p : Pt} {e : Ex} {d : D} (h : evE C e ρ S = .ok d S1) (h2 : p.put d ρ = some ρ1) : evS C nm F (.asg p e) ρ S = .ok (.next ρ1) S1 := by
  rw [evS, h]; show (match p.put d ρ with | some ρ1 => Rs.ok (Ou.next ρ1) S1 | none => .bad) = _; rw [h2]
theorem S_par2 {i j : Nat} {a b : Ex} {x y : D} (h : evE C a ρ S = .ok x S1) (h2 : evE C b ρ S1 = .ok y S2) : evS C nm F (.par2 i j a b) ρ S = .ok (.next ((ρ.set i (.val x)).set j (.val y))) S2 := by
  rw [evS, h]; show Rs.bind (evE C b ρ S1) _ = _; rw [h2]; rfl
theorem S_par3 {i j k : Nat} {a b c : Ex} {x y z : D} (h : evE C a ρ S = .ok x S1) (h2 : evE C b ρ S1 = .ok y S2) (h3 : evE C c ρ S2 = .ok z S3) : evS C nm F (.par3 i j k a b c) ρ S = .ok (.next (((ρ.set i (.val x)).set j (.val y)).set k (.val z))) S3 := by
  rw [evS, h]; show Rs.bind (evE C b ρ S1) _ = _; rw [h2]; show Rs.bind (evE C c ρ S2) _ = _; rw [h3]; rfl
theorem S_asg2 {p q : Pt} {e : Ex} {d : D} (h : evE C e ρ S = .ok d S1) (h2 : p.put d ρ = some ρ1) (h3 : q.put d ρ1 = some ρ2) : evS C nm F (.asg2 p q e) ρ S = .ok (.next ρ2) S1 := by
  rw [evS, h]; show (match p.put d ρ with | some ρ1 => (match q.put d ρ1 with | some ρ2 => Rs.ok (Ou.next ρ2) S1 | none => .bad) | none => .bad) = _; rw [h2]; show (match q.put d ρ1 with | some ρ2 => Rs.ok (Ou.next ρ2) S1 | none => .bad) = _; rw [h3]
theorem S_own {i : Nat} {es : Exs} {ds : List D} (h : evEs C es ρ S = .ok ds S1) (hl : Nat.ble ds.length big = true) : evS C nm F (.own i es) ρ S = .ok (.next (ρ.set i (.own ds))) S1 := by
  rw [evS, h]; exact if_pos (Nat.le_of_ble_eq_true hl)
theorem S_app {i : Nat} {e : Ex} {xs : List D} {d : D} (h0 : slotO ρ i = some xs) (h : evE C e ρ S = .ok d S1) (hl : xs.length < big) : evS C nm F (.app i e) ρ S = .ok (.next (ρ.set i (.own (xs ++ [d])))) S1 := by
  rw [evS, h0]; show (evE C e ρ S).bind _ = _; rw [h]; exact if_pos hl
theorem S_setix {a k v : Ex} {m : Nat} {i : Int} {d : D} {xs : List D} (h : evE C v ρ S = .ok d S1) (h2 : evE C a ρ S1 = .ok (.obj m) S2) (h3 : evE C k ρ S2 = .ok (.int i) S3) (h4 : S3[m]? = some (.lst xs)) (h5 : 0 ≤ i) (h6 : i < xs.length) (h7 : noClo d = true) : evS C nm F (.setix a k v) ρ S = .ok (.next ρ) (S3.set m (.lst (xs.set i.toNat d))) := by
  rw [evS, h]; show Rs.bind (evE C a ρ S1) _ = _; rw [h2]; show Rs.bind (evE C k ρ S2) _ = _; rw [h3]
  show (match S3[m]? with
      | some (.lst xs) => if decide (0 ≤ i) && decide (i < xs.length) && noClo d then Rs.ok (Ou.next ρ) (S3.set m (.lst (xs.set i.toNat d))) else .bad
      | _ => .bad) = _
  rw [h4]; exact if_pos (by rw [Bool.and_eq_true, Bool.and_eq_true]; exact ⟨⟨decide_eq_true h5, decide_eq_true h6⟩, h7⟩)
theorem S_expr {e : Ex} {d : D} (h : evE C e ρ S = .ok d S1) : evS C nm F (.expr e) ρ S = .ok (.next ρ) S1 := by rw [evS, h]; rfl
theorem S_setix0 : True := trivial
theorem S_expr_exc {e : Ex} {c : Nat} (h : evE C e ρ S = .exc c S1) : evS C nm F (.expr e) ρ S = .exc c S1 := by rw [evS, h]; rfl
theorem S_ite_t {c : Ex} {a b : Sxs} {k : Bool} {r : Rs Ou} (h : evT C c ρ S = .ok k S1) (hk : k = true) (h2 : evSs C nm F a ρ S1 = r) : evS C nm F (.ite c a b) ρ S = r := by
  subst hk; rw [evS, h]; exact h2
theorem S_ite_f {c : Ex} {a b : Sxs} {k : Bool} {r : Rs Ou} (h : evT C c ρ S = .ok k S1) (hk : k = false) (h2 : evSs C nm F b ρ S1 = r) : evS C nm F (.ite c a b) ρ S = r := by
  subst hk; rw [evS, h]; exact h2
theorem S_for {p : Pt} {it : Itx} {b : Sxs} {xs : List D} {r : Rs Ou} (h : evI C it ρ S = .ok xs S1) (h2 : forLoop p (evSs C nm F b) xs ρ S1 = r) : evS C nm F (.for_ p it b) ρ S = r := by
  rw [evS, h]; exact h2
theorem S_retOwn {i : Nat} {xs : List D} (h : slotO ρ i = some xs) : evS C nm F (.retOwn i) ρ S = .ok (.ret (.lst xs)) S := by rw [evS, h]
theorem S_retNew {es : Exs} {ds : List D} (h : evEs C es ρ S = .ok ds S1) (hl : Nat.ble ds.length big = true) (hc : noClos ds = true) : evS C nm F (.retNew es) ρ S = .ok (.ret (.obj S1.length)) (S1 ++ [.lst ds]) := by
  rw [evS, h]; exact if_pos (by rw [Bool.and_eq_true]; exact ⟨decide_eq_true (Nat.le_of_ble_eq_true hl), hc⟩)
theorem R_retNew {es : Exs} {ds : List D} {ss : Sxs} (h : evEs C es ρ S = .ok ds S1) (hl : Nat.ble ds.length big = true) (hc : noClos ds = true) : evSs C nm F (.cons (.retNew es) ss) ρ S = .ok (.ret (.obj S1.length)) (S1 ++ [.lst ds]) := Ss_ret (S_retNew h hl hc)
theorem S_while {c : Ex} {b : Sxs} {r : Rs Ou} (h : whileLoop (evT C c) (evSs C nm F b) F ρ S = r) : evS C nm F (.while_ c b) ρ S = r := h
def _root_.Iv.Sxs.app : Sxs → Sxs → Sxs
  | .nil, b => b
  | .cons s a, b => .cons s (a.app b)
theorem evSs_app : ∀ {a b : Sxs} {ρ : Iv.Env} {S : Store}, evSs C nm F (a.app b) ρ S = (evSs C nm F a ρ S).bind fun o S1 => match o with
    | .next ρ1 => evSs C nm F b ρ1 S1
    | .ret d => .ok (.ret d) S1
  | .nil, b, ρ, S => rfl
  | .cons s a, b, ρ, S => by
    rw [Sxs.app, evSs, evSs]
    cases evS C nm F s ρ S with
    | bad => rfl
    | exc c S1 => rfl
    | ok o S1 =>
      cases o with
      | ret d => rfl
      | next ρ1 => exact evSs_app
theorem R_asg {p : Pt} {e : Ex} {d : D} {ss : Sxs} {r : Rs Ou} (h : evE C e ρ S = .ok d S1) (h2 : p.put d ρ = some ρ1) (h3 : evSs C nm F ss ρ1 S1 = r) : evSs C nm F (.cons (.asg p e) ss) ρ S = r := Ss_cons (S_asg h h2) h3
theorem R_par2 {i j : Nat} {a b : Ex} {x y : D} {ss : Sxs} {r : Rs Ou} (h : evE C a ρ S = .ok x S1) (h2 : evE C b ρ S1 = .ok y S2) (h3 : evSs C nm F ss ((ρ.set i (.val x)).set j (.val y)) S2 = r) : evSs C nm F (.cons (.par2 i j a b) ss) ρ S = r := Ss_cons (S_par2 h h2) h3
theorem R_par3 {i j k : Nat} {a b c : Ex} {x y z : D} {ss : Sxs} {r : Rs Ou} (h : evE C a ρ S = .ok x S1) (h2 : evE C b ρ S1 = .ok y S2) (h2' : evE C c ρ S2 = .ok z S3) (h3 : evSs C nm F ss (((ρ.set i (.val x)).set j (.val y)).set k (.val z)) S3 = r) : evSs C nm F (.cons (.par3 i j k a b c) ss) ρ S = r := Ss_cons (S_par3 h h2 h2') h3
theorem R_asg2 {p q : Pt} {e : Ex} {d : D} {ss : Sxs} {r : Rs Ou} (h : evE C e ρ S = .ok d S1) (h2 : p.put d ρ = some ρ1) (h2' : q.put d ρ1 = some ρ2) (h3 : evSs C nm F ss ρ2 S1 = r) : evSs C nm F (.cons (.asg2 p q e) ss) ρ S = r := Ss_cons (S_asg2 h h2 h2') h3
theorem R_own {i : Nat} {es : Exs} {ds : List D} {ss : Sxs} {r : Rs Ou} (h : evEs C es ρ S = .ok ds S1) (hl : Nat.ble ds.length big = true) (h3 : evSs C nm F ss (ρ.set i (.own ds)) S1 = r) : evSs C nm F (.cons (.own i es) ss) ρ S = r := Ss_cons (S_own h hl) h3
theorem R_app {i : Nat} {e : Ex} {xs : List D} {d : D} {ss : Sxs} {r : Rs Ou} (h0 : slotO ρ i = some xs) (h : evE C e ρ S = .ok d S1) (hl : xs.length < big) (h3 : evSs C nm F ss (ρ.set i (.own (xs ++ [d]))) S1 = r) : evSs C nm F (.cons (.app i e) ss) ρ S = r := Ss_cons (S_app h0 h hl) h3
theorem R_ret {e : Ex} {d : D} {ss : Sxs} (h : evE C e ρ S = .ok d S1) : evSs C nm F (.cons (.ret e) ss) ρ S = .ok (.ret d) S1 := Ss_ret (S_ret h)
theorem R_retOwn {i : Nat} {xs : List D} {ss : Sxs} (h : slotO ρ i = some xs) : evSs C nm F (.cons (.retOwn i) ss) ρ S = .ok (.ret (.lst xs)) S := Ss_ret (S_retOwn h)
theorem R_expr {e : Ex} {d : D} {ss : Sxs} {r : Rs Ou} (h : evE C e ρ S = .ok d S1) (h3 : evSs C nm F ss ρ S1 = r) : evSs C nm F (.cons (.expr e) ss) ρ S = r := Ss_cons (S_expr h) h3
theorem R_frz {i : Nat} {xs : List D} {ss : Sxs} {r : Rs Ou} (h : slotO ρ i = some xs) (h3 : evSs C nm F ss (ρ.set i (.val (.lst xs))) S = r) : evSs C nm F (.cons (.frz i) ss) ρ S = r := Ss_cons (by rw [evS, h]) h3
theorem R_raise {c : Nat} {ss : Sxs} : evSs C nm F (.cons (.raise c) ss) ρ S = .exc c S := Ss_exc rfl
theorem R_ite_t {c : Ex} {a b ss : Sxs} {k : Bool} {r : Rs Ou} (h : evT C c ρ S = .ok k S1) (hk : k = true) (h3 : evSs C nm F (a.app ss) ρ S1 = r) : evSs C nm F (.cons (.ite c a b) ss) ρ S = r := by
  subst hk
  rw [evSs_app] at h3
  rw [evSs, evS, h]
  exact h3
theorem R_ite_f {c : Ex} {a b ss : Sxs} {k : Bool} {r : Rs Ou} (h : evT C c ρ S = .ok k S1) (hk : k = false) (h3 : evSs C nm F (b.app ss) ρ S1 = r) : evSs C nm F (.cons (.ite c a b) ss) ρ S = r := by
  subst hk
  rw [evSs_app] at h3
  rw [evSs, evS, h]
  exact h3
theorem R_for {p : Pt} {it : Itx} {b ss : Sxs} {xs : List D} {r : Rs Ou} (h : evI C it ρ S = .ok xs S1) (h2 : forLoop p (evSs C nm F b) xs ρ S1 = .ok (.next ρ1) S2) (h3 : evSs C nm F ss ρ1 S2 = r) : evSs C nm F (.cons (.for_ p it b) ss) ρ S = r := Ss_cons (S_for h h2) h3
theorem R_while {c : Ex} {b ss : Sxs} {r : Rs Ou} (h2 : whileLoop (evT C c) (evSs C nm F b) F ρ S = .ok (.next ρ1) S2) (h3 : evSs C nm F ss ρ1 S2 = r) : evSs C nm F (.cons (.while_ c b) ss) ρ S = r := Ss_cons (S_while h2) h3
/-- a for whose turns all go on, by an invariant -/
theorem for_inv {b : Iv.Env → Store → Rs Ou} {p : Pt} (I : Nat → Iv.Env → Store → Prop) : ∀ {xs : List D} {i : Nat} {ρ : Iv.Env} {S : Store}, (∀ j x ρ S, xs[j]? = some x → I (i + j) ρ S → ∃ ρ1 ρ2 S2, p.put x ρ = some ρ1 ∧ b ρ1 S = .ok (.next ρ2) S2 ∧ I (i + j + 1) ρ2 S2) → I i ρ S → ∃ ρ' S', forLoop p b xs ρ S = .ok (.next ρ') S' ∧ I (i + xs.length) ρ' S'
  | [], i, ρ, S, _, h0 => ⟨ρ, S, rfl, h0⟩
  | x :: xs, i, ρ, S, h, h0 => by
    obtain ⟨ρ1, ρ2, S2, h1, h2, h3⟩ := h 0 x ρ S rfl h0
    obtain ⟨ρ', S', h4, h5⟩ := for_inv (b := b) (p := p) I (xs := xs) (i := i + 1) (ρ := ρ2) (S := S2) (fun j y ρ S hj hI => by
      have := h (j + 1) y ρ S (by simpa using hj) (by rw [show i + (j + 1) = i + 1 + j by omega]; exact hI)
      rw [show i + (j + 1) + 1 = i + 1 + j + 1 by omega] at this
      exact this) h3
    refine ⟨ρ', S', ?_, by rw [List.length_cons, show i + (xs.length + 1) = i + 1 + xs.length by omega]; exact h5⟩
    rw [forLoop, h1]; show Rs.bind (b ρ1 S) _ = _; rw [h2]; exact h4
theorem while_stop {c : Iv.Env → Store → Rs Bool} {b : Iv.Env → Store → Rs Ou} {m : Nat} (h : c ρ S = .ok false S1) : whileLoop c b (m + 1) ρ S = .ok (.next ρ) S1 := by rw [whileLoop, h]; rfl
theorem while_go {c : Iv.Env → Store → Rs Bool} {b : Iv.Env → Store → Rs Ou} {m : Nat} {r : Rs Ou} (h : c ρ S = .ok true S1) (h2 : b ρ S1 = .ok (.next ρ2) S2) (h3 : whileLoop c b m ρ2 S2 = r) : whileLoop c b (m + 1) ρ S = r := by
  rw [whileLoop, h]; show Rs.bind (b ρ S1) _ = _; rw [h2]; exact h3
end
end Iv
/-! MSh: what the defs that many laws share give. -/
namespace Iv
open PySem Sh
section
variable {Φ : Nat → Option FnI} {Λ : Nat → Option LamI} {nm : Names} {F n : Nat} {S : Store}
theorem sp_weight_of (h : Φ 47 = some b_weight_of) (a b : Int) : callF Φ Λ nm F (n + 1) (.fn 47) [.tup [.int a, .int b]] S = .ok (.int (a + b)) S := by
  refine call_ret h rfl ?_
  repeat (first
    | with_reducible exact E_lit
    | (with_reducible apply E_var; rfl)
    | (with_reducible apply R_ret)
    | (with_reducible apply R_asg)
    | (with_reducible apply R_par2)
    | (with_reducible apply R_par3)
    | (with_reducible apply R_asg2)
    | (with_reducible apply R_expr)
    | (with_reducible apply R_own)
    | (with_reducible apply R_retOwn; rfl)
    | (with_reducible apply R_frz)
    | (with_reducible apply R_retNew)
    | (with_reducible exact R_raise)
    | (with_reducible exact Es_nil)
    | (with_reducible apply Es_cons)
    | (with_reducible apply E_tup)
    | (with_reducible apply E_lst)
    | (with_reducible apply E_bin)
    | (with_reducible apply E_neg)
    | (with_reducible apply E_not)
    | (with_reducible apply E_cmp)
    | (with_reducible apply E_chain)
    | (with_reducible apply E_sub)
    | (with_reducible apply E_slice)
    | (with_reducible apply E_rev)
    | (with_reducible apply E_isa)
    | (with_reducible apply E_bi)
    | (with_reducible apply E_call)
    | (with_reducible exact O_none)
    | (with_reducible apply O_some)
    | (with_reducible exact C_none)
    | (with_reducible apply C_some)
    | (with_reducible apply T_of)
    | (with_reducible apply I_over)
    | (with_reducible apply I_range1)
    | (with_reducible apply I_range2)
    | (with_reducible apply I_enum)
    | (with_reducible exact Ss_nil)
    | (with_reducible exact B_add)
    | (with_reducible exact B_sub)
    | (with_reducible apply B_mul; rotate_left)
    | (simp only [Sxs.app]) | rfl )
theorem sp_is_whole (h : Φ 1 = some b_is_whole) (a lo hi : Int) : callF Φ Λ nm F (n + 1) (.fn 1) [.int a, .int lo, .int hi] S = .ok (.bl (decide (lo ≤ a) && decide (a ≤ hi))) S := by
  refine call_ret h rfl ?_
  repeat (first
    | with_reducible exact E_lit
    | (with_reducible apply E_var; rfl)
    | (with_reducible apply R_ret)
    | (with_reducible apply R_asg)
    | (with_reducible apply R_par2)
    | (with_reducible apply R_par3)
    | (with_reducible apply R_asg2)
    | (with_reducible apply R_expr)
    | (with_reducible apply R_own)
    | (with_reducible apply R_retOwn; rfl)
    | (with_reducible apply R_frz)
    | (with_reducible apply R_retNew)
    | (with_reducible exact R_raise)
    | (with_reducible exact Es_nil)
    | (with_reducible apply Es_cons)
    | (with_reducible apply E_tup)
    | (with_reducible apply E_lst)
    | (with_reducible apply E_bin)
    | (with_reducible apply E_neg)
    | (with_reducible apply E_not)
    | (with_reducible apply E_cmp)
    | (with_reducible apply E_chain)
    | (with_reducible apply E_sub)
    | (with_reducible apply E_slice)
    | (with_reducible apply E_rev)
    | (with_reducible apply E_isa)
    | (with_reducible apply E_bi)
    | (with_reducible apply E_call)
    | (with_reducible exact O_none)
    | (with_reducible apply O_some)
    | (with_reducible exact C_none)
    | (with_reducible apply C_some)
    | (with_reducible apply T_of)
    | (with_reducible apply I_over)
    | (with_reducible apply I_range1)
    | (with_reducible apply I_range2)
    | (with_reducible apply I_enum)
    | (with_reducible exact Ss_nil)
    | (with_reducible exact B_add)
    | (with_reducible exact B_sub)
    | (with_reducible apply B_mul; rotate_left)
    | (simp only [Sxs.app]) | rfl )
  refine E_and_t (E_isa (E_var rfl) rfl) rfl ?_
  refine E_and_t (x := .bl true) (E_not (k := false) (E_isa (E_var rfl) rfl) rfl) rfl ?_
  repeat (first
    | with_reducible exact E_lit
    | (with_reducible apply E_var; rfl)
    | (with_reducible apply R_ret)
    | (with_reducible apply R_asg)
    | (with_reducible apply R_par2)
    | (with_reducible apply R_par3)
    | (with_reducible apply R_asg2)
    | (with_reducible apply R_expr)
    | (with_reducible apply R_own)
    | (with_reducible apply R_retOwn; rfl)
    | (with_reducible apply R_frz)
    | (with_reducible apply R_retNew)
    | (with_reducible exact R_raise)
    | (with_reducible exact Es_nil)
    | (with_reducible apply Es_cons)
    | (with_reducible apply E_tup)
    | (with_reducible apply E_lst)
    | (with_reducible apply E_bin)
    | (with_reducible apply E_neg)
    | (with_reducible apply E_not)
    | (with_reducible apply E_cmp)
    | (with_reducible apply E_chain)
    | (with_reducible apply E_sub)
    | (with_reducible apply E_slice)
    | (with_reducible apply E_rev)
    | (with_reducible apply E_isa)
    | (with_reducible apply E_bi)
    | (with_reducible apply E_call)
    | (with_reducible exact O_none)
    | (with_reducible apply O_some)
    | (with_reducible exact C_none)
    | (with_reducible apply C_some)
    | (with_reducible apply T_of)
    | (with_reducible apply I_over)
    | (with_reducible apply I_range1)
    | (with_reducible apply I_range2)
    | (with_reducible apply I_enum)
    | (with_reducible exact Ss_nil)
    | (with_reducible exact B_add)
    | (with_reducible exact B_sub)
    | (with_reducible apply B_mul; rotate_left)
    | (simp only [Sxs.app]) | rfl )
/-! ### greatest common divisors -/
theorem fmod_neg (x : Int) {y : Int} (h : y < 0) : y < x.fmod y ∧ x.fmod y ≤ 0 := by
  have e := Int.fmod_eq_emod (a := x) (b := y)
  have h1 := Int.emod_nonneg x (show y ≠ 0 by omega)
  have h2 := Int.emod_lt x (show y ≠ 0 by omega)
  by_cases hd : y ∣ x
  · have h3 := Int.emod_eq_zero_of_dvd hd
    rw [if_pos (.inr hd)] at e
    omega
  · rw [if_neg (by omega)] at e
    have h4 : x % y ≠ 0 := fun z => hd (Int.dvd_of_emod_eq_zero z)
    omega
theorem gcd_fmod (x y : Int) : Int.gcd y (x.fmod y) = Int.gcd x y := by
  have e := Int.fmod_add_mul_fdiv x y
  have e2 : x.fmod y = x - y * x.fdiv y := by omega
  rw [e2, Int.gcd_sub_mul_left_right, Int.gcd_comm]
theorem gcd_loop {b : Iv.Env → Store → Rs Ou} {c : Iv.Env → Store → Rs Bool} (hc : ∀ (x y : Int), c [.val (.int x), .val (.int y)] S = .ok (decide (y ≠ 0)) S) (hb : ∀ (x y : Int), y ≠ 0 → b [.val (.int x), .val (.int y)] S = .ok (.next [.val (.int y), .val (.int (x.fmod y))]) S) :
    ∀ (k : Nat) (x y : Int), y.natAbs < k → ∃ z, whileLoop c b k [.val (.int x), .val (.int y)] S = .ok (.next [.val (.int z), .val (.int 0)]) S ∧ z.natAbs = Int.gcd x y ∧ (0 ≤ x → 0 ≤ y → 0 ≤ z)
  | 0, x, y, h => absurd h (Nat.not_lt_zero _)
  | k + 1, x, y, h => by
    by_cases hy : y = 0
    · subst hy
      exact ⟨x, while_stop (by rw [hc]; rfl), by simp, fun h _ => h⟩
    · have hl : (x.fmod y).natAbs < y.natAbs := by
        rcases Int.lt_or_gt_of_ne hy with h0 | h0
        · have h1 := fmod_neg x h0
          omega
        · have h1 := Int.fmod_nonneg_of_pos x h0
          have h2 := Int.fmod_lt_of_pos x h0
          omega
      obtain ⟨z, e, g, p⟩ := gcd_loop hc hb k y (x.fmod y) (by omega)
      refine ⟨z, while_go (by rw [hc, decide_eq_true hy]) (hb x y hy) e, ?_, fun h1 h2 => p h2 (Int.fmod_nonneg_of_pos x (by omega))⟩
      rw [g, gcd_fmod]
/-! ### what draws come from -/
/-- the object m of the store is a vat -/
def Vat (m : Nat) (S : Store) : Prop := ∃ a b : Int, S[m]? = some (.lst [.int a, .int b]) ∧ 0 ≤ a ∧ 0 ≤ b ∧ b ≤ 2147483629
/-- from S to S' the vat m may have changed, and nothing else -/
structure VS (m : Nat) (S S' : Store) : Prop where
  vat : Vat m S'
  len : S'.length = S.length
  oth : ∀ j, j ≠ m → S'[j]? = S[j]?
theorem VS.refl {m : Nat} (h : Vat m S) : VS m S S := ⟨h, rfl, fun _ _ => rfl⟩
theorem VS.trans {m : Nat} {S S1 S2 : Store} (a : VS m S S1) (b : VS m S1 S2) : VS m S S2 := ⟨b.vat, b.len.trans a.len, fun j h => (b.oth j h).trans (a.oth j h)⟩
theorem vs_set {m : Nat} {a b a' b' : Int} (h : S[m]? = some (.lst [.int a, .int b])) (ha : 0 ≤ a') (hb : 0 ≤ b') (hb2 : b' ≤ 2147483629) : VS m S (S.set m (.lst [.int a', .int b'])) := by
  have hl : m < S.length := (List.getElem?_eq_some_iff.mp h).1
  exact ⟨⟨a', b', List.getElem?_set_self hl, ha, hb, hb2⟩, List.length_set, fun j hj => List.getElem?_set_ne (Ne.symm hj)⟩
theorem mulOk_small {i j : Int} (hi : i.natAbs < 2 ^ 10000000) (hj : j.natAbs < 2 ^ 10000000) : mulOk i j = true := by
  unfold mulOk
  have key : ∀ x : Int, x.natAbs < 2 ^ 10000000 → x.natAbs.log2 < 10000000 := fun x hx => by
    by_cases h0 : x.natAbs = 0
    · rw [h0]; decide
    · exact (Nat.log2_lt h0).mpr hx
  have h1 := key i hi
  have h2 := key j hj
  exact decide_eq_true (by omega)
theorem lt_huge {x : Int} {k : Nat} (h : x.natAbs < 2 ^ k) (hk : k ≤ 10000000) : x.natAbs < 2 ^ 10000000 := Nat.lt_of_lt_of_le h (Nat.pow_le_pow_right (by decide) hk)
theorem deref_obj {m : Nat} {xs : List D} (h : S[m]? = some (.lst xs)) : deref S (.obj m) = .lst xs := by simp only [deref, h]
theorem fdiv_ok {i j : Int} (h : 0 < j) (h2 : j < 2 ^ 63) : binO .fdiv (.int i) (.int j) = some (.int (i.fdiv j)) := by
  refine B_fdiv (by omega) ?_
  have h3 : j.natAbs < 2 ^ 63 := by omega
  have := (Nat.log2_lt (show j.natAbs ≠ 0 by omega)).mpr h3
  omega
theorem sp_under (h : Φ 20 = some b__law_under) {m : Nat} (v : Vat m S) {k : Int} (hk : 0 < k) (hk2 : k < 2 ^ 63) : ∃ r S', callF Φ Λ nm F (n + 1) (.fn 20) [.obj m, .int k] S = .ok (.int r) S' ∧ 0 ≤ r ∧ r < k ∧ VS m S S' := by
  obtain ⟨a, b, e, ha, hb, hb2⟩ := v
  have s0 : subO (deref S (.obj m)) (.int 0) = some (.int a) := by rw [deref_obj e]; rfl
  have s1 : subO (deref S (.obj m)) (.int 1) = some (.int b) := by rw [deref_obj e]; rfl
  by_cases h0 : 0 < a
  · refine ⟨a.fmod k, S.set m (.lst [.int (a.fdiv k), .int b]), ?_, Int.fmod_nonneg_of_pos a hk, Int.fmod_lt_of_pos a hk, vs_set e (Int.fdiv_nonneg ha (by omega)) hb hb2⟩
    refine call_ret h rfl ?_
    refine R_ite_t (S1 := S) (k := decide (0 < a)) ?_ (decide_eq_true h0) ?_
    · repeat (first
    | with_reducible exact E_lit
    | (with_reducible apply E_var; rfl)
    | (with_reducible apply R_ret)
    | (with_reducible apply R_asg)
    | (with_reducible apply R_par2)
    | (with_reducible apply R_par3)
    | (with_reducible apply R_asg2)
    | (with_reducible apply R_expr)
    | (with_reducible apply R_own)
    | (with_reducible apply R_retOwn; rfl)
    | (with_reducible apply R_frz)
    | (with_reducible apply R_retNew)
    | (with_reducible exact R_raise)
    | (with_reducible exact Es_nil)
    | (with_reducible apply Es_cons)
    | (with_reducible apply E_tup)
    | (with_reducible apply E_lst)
    | (with_reducible apply E_bin)
    | (with_reducible apply E_neg)
    | (with_reducible apply E_not)
    | (with_reducible apply E_cmp)
    | (with_reducible apply E_chain)
    | (with_reducible apply E_sub)
    | (with_reducible apply E_slice)
    | (with_reducible apply E_rev)
    | (with_reducible apply E_isa)
    | (with_reducible apply E_bi)
    | (with_reducible apply E_call)
    | (with_reducible exact O_none)
    | (with_reducible apply O_some)
    | (with_reducible exact C_none)
    | (with_reducible apply C_some)
    | (with_reducible apply T_of)
    | (with_reducible apply I_over)
    | (with_reducible apply I_range1)
    | (with_reducible apply I_range2)
    | (with_reducible apply I_enum)
    | (with_reducible exact Ss_nil)
    | (with_reducible exact B_add)
    | (with_reducible exact B_sub)
    | (with_reducible apply B_mul; rotate_left)
    | (simp only [Sxs.app]) | rfl | exact s0)
    · repeat (first
    | with_reducible exact E_lit
    | (with_reducible apply E_var; rfl)
    | (with_reducible apply R_ret)
    | (with_reducible apply R_asg)
    | (with_reducible apply R_par2)
    | (with_reducible apply R_par3)
    | (with_reducible apply R_asg2)
    | (with_reducible apply R_expr)
    | (with_reducible apply R_own)
    | (with_reducible apply R_retOwn; rfl)
    | (with_reducible apply R_frz)
    | (with_reducible apply R_retNew)
    | (with_reducible exact R_raise)
    | (with_reducible exact Es_nil)
    | (with_reducible apply Es_cons)
    | (with_reducible apply E_tup)
    | (with_reducible apply E_lst)
    | (with_reducible apply E_bin)
    | (with_reducible apply E_neg)
    | (with_reducible apply E_not)
    | (with_reducible apply E_cmp)
    | (with_reducible apply E_chain)
    | (with_reducible apply E_sub)
    | (with_reducible apply E_slice)
    | (with_reducible apply E_rev)
    | (with_reducible apply E_isa)
    | (with_reducible apply E_bi)
    | (with_reducible apply E_call)
    | (with_reducible exact O_none)
    | (with_reducible apply O_some)
    | (with_reducible exact C_none)
    | (with_reducible apply C_some)
    | (with_reducible apply T_of)
    | (with_reducible apply I_over)
    | (with_reducible apply I_range1)
    | (with_reducible apply I_range2)
    | (with_reducible apply I_enum)
    | (with_reducible exact Ss_nil)
    | (with_reducible exact B_add)
    | (with_reducible exact B_sub)
    | (with_reducible apply B_mul; rotate_left)
    | (simp only [Sxs.app]) | rfl | exact s0 | exact B_mod (by omega))
      refine Ss_cons (S_setix (E_bin (E_sub (E_var rfl) E_lit s0) (E_var rfl) (fdiv_ok hk hk2)) (E_var rfl) E_lit e (i := 0) (by decide) (by simp) rfl) ?_
      repeat (first
    | with_reducible exact E_lit
    | (with_reducible apply E_var; rfl)
    | (with_reducible apply R_ret)
    | (with_reducible apply R_asg)
    | (with_reducible apply R_par2)
    | (with_reducible apply R_par3)
    | (with_reducible apply R_asg2)
    | (with_reducible apply R_expr)
    | (with_reducible apply R_own)
    | (with_reducible apply R_retOwn; rfl)
    | (with_reducible apply R_frz)
    | (with_reducible apply R_retNew)
    | (with_reducible exact R_raise)
    | (with_reducible exact Es_nil)
    | (with_reducible apply Es_cons)
    | (with_reducible apply E_tup)
    | (with_reducible apply E_lst)
    | (with_reducible apply E_bin)
    | (with_reducible apply E_neg)
    | (with_reducible apply E_not)
    | (with_reducible apply E_cmp)
    | (with_reducible apply E_chain)
    | (with_reducible apply E_sub)
    | (with_reducible apply E_slice)
    | (with_reducible apply E_rev)
    | (with_reducible apply E_isa)
    | (with_reducible apply E_bi)
    | (with_reducible apply E_call)
    | (with_reducible exact O_none)
    | (with_reducible apply O_some)
    | (with_reducible exact C_none)
    | (with_reducible apply C_some)
    | (with_reducible apply T_of)
    | (with_reducible apply I_over)
    | (with_reducible apply I_range1)
    | (with_reducible apply I_range2)
    | (with_reducible apply I_enum)
    | (with_reducible exact Ss_nil)
    | (with_reducible exact B_add)
    | (with_reducible exact B_sub)
    | (with_reducible apply B_mul; rotate_left)
    | (simp only [Sxs.app]) | rfl )
  · obtain ⟨b', hb'⟩ : ∃ b', b' = (b * 39373 + 101).fmod 2147483629 := ⟨_, rfl⟩
    have p1 := Int.fmod_nonneg_of_pos (b * 39373 + 101) (show (0 : Int) < 2147483629 by decide)
    have p2 := Int.fmod_lt_of_pos (b * 39373 + 101) (show (0 : Int) < 2147483629 by decide)
    rw [← hb'] at p1 p2
    have e2 : (S.set m (.lst [.int a, .int b']))[m]? = some (.lst [.int a, .int b']) := List.getElem?_set_self (List.getElem?_eq_some_iff.mp e).1
    have t1 : subO (deref (S.set m (.lst [.int a, .int b'])) (.obj m)) (.int 1) = some (.int b') := by rw [deref_obj e2]; rfl
    have q1 : 0 ≤ b'.fdiv 5 := Int.fdiv_nonneg p1 (by decide)
    have q2 : b'.fdiv 5 ≤ b' := by rw [Int.fdiv_eq_ediv_of_nonneg _ (by decide)]; omega
    refine ⟨(((b' * (b'.fdiv 5 + 9)).fmod 2147483587).fdiv 32).fmod k, S.set m (.lst [.int a, .int b']), ?_, Int.fmod_nonneg_of_pos _ hk, Int.fmod_lt_of_pos _ hk, vs_set e ha p1 (by omega)⟩
    refine call_ret h rfl ?_
    refine R_ite_f (S1 := S) (k := decide (0 < a)) ?_ (decide_eq_false h0) ?_
    · repeat (first
    | with_reducible exact E_lit
    | (with_reducible apply E_var; rfl)
    | (with_reducible apply R_ret)
    | (with_reducible apply R_asg)
    | (with_reducible apply R_par2)
    | (with_reducible apply R_par3)
    | (with_reducible apply R_asg2)
    | (with_reducible apply R_expr)
    | (with_reducible apply R_own)
    | (with_reducible apply R_retOwn; rfl)
    | (with_reducible apply R_frz)
    | (with_reducible apply R_retNew)
    | (with_reducible exact R_raise)
    | (with_reducible exact Es_nil)
    | (with_reducible apply Es_cons)
    | (with_reducible apply E_tup)
    | (with_reducible apply E_lst)
    | (with_reducible apply E_bin)
    | (with_reducible apply E_neg)
    | (with_reducible apply E_not)
    | (with_reducible apply E_cmp)
    | (with_reducible apply E_chain)
    | (with_reducible apply E_sub)
    | (with_reducible apply E_slice)
    | (with_reducible apply E_rev)
    | (with_reducible apply E_isa)
    | (with_reducible apply E_bi)
    | (with_reducible apply E_call)
    | (with_reducible exact O_none)
    | (with_reducible apply O_some)
    | (with_reducible exact C_none)
    | (with_reducible apply C_some)
    | (with_reducible apply T_of)
    | (with_reducible apply I_over)
    | (with_reducible apply I_range1)
    | (with_reducible apply I_range2)
    | (with_reducible apply I_enum)
    | (with_reducible exact Ss_nil)
    | (with_reducible exact B_add)
    | (with_reducible exact B_sub)
    | (with_reducible apply B_mul; rotate_left)
    | (simp only [Sxs.app]) | rfl | exact s0)
    · simp only [Sxs.app]
      refine Ss_cons (S_setix (d := .int b') (E_bin (S1 := S) (x := .int (b * 39373 + 101)) (y := .int 2147483629) ?_ E_lit (by rw [hb']; exact B_mod (by decide))) (E_var rfl) E_lit e (i := 1) (by decide) (by simp) rfl) ?_
      · repeat (first
    | with_reducible exact E_lit
    | (with_reducible apply E_var; rfl)
    | (with_reducible apply R_ret)
    | (with_reducible apply R_asg)
    | (with_reducible apply R_par2)
    | (with_reducible apply R_par3)
    | (with_reducible apply R_asg2)
    | (with_reducible apply R_expr)
    | (with_reducible apply R_own)
    | (with_reducible apply R_retOwn; rfl)
    | (with_reducible apply R_frz)
    | (with_reducible apply R_retNew)
    | (with_reducible exact R_raise)
    | (with_reducible exact Es_nil)
    | (with_reducible apply Es_cons)
    | (with_reducible apply E_tup)
    | (with_reducible apply E_lst)
    | (with_reducible apply E_bin)
    | (with_reducible apply E_neg)
    | (with_reducible apply E_not)
    | (with_reducible apply E_cmp)
    | (with_reducible apply E_chain)
    | (with_reducible apply E_sub)
    | (with_reducible apply E_slice)
    | (with_reducible apply E_rev)
    | (with_reducible apply E_isa)
    | (with_reducible apply E_bi)
    | (with_reducible apply E_call)
    | (with_reducible exact O_none)
    | (with_reducible apply O_some)
    | (with_reducible exact C_none)
    | (with_reducible apply C_some)
    | (with_reducible apply T_of)
    | (with_reducible apply I_over)
    | (with_reducible apply I_range1)
    | (with_reducible apply I_range2)
    | (with_reducible apply I_enum)
    | (with_reducible exact Ss_nil)
    | (with_reducible exact B_add)
    | (with_reducible exact B_sub)
    | (with_reducible apply B_mul; rotate_left)
    | (simp only [Sxs.app]) | rfl | exact s1)
        exact mulOk_small (lt_huge (k := 40) (by omega) (by decide)) (lt_huge (k := 40) (by decide) (by decide))
      · repeat (first
    | with_reducible exact E_lit
    | (with_reducible apply E_var; rfl)
    | (with_reducible apply R_ret)
    | (with_reducible apply R_asg)
    | (with_reducible apply R_par2)
    | (with_reducible apply R_par3)
    | (with_reducible apply R_asg2)
    | (with_reducible apply R_expr)
    | (with_reducible apply R_own)
    | (with_reducible apply R_retOwn; rfl)
    | (with_reducible apply R_frz)
    | (with_reducible apply R_retNew)
    | (with_reducible exact R_raise)
    | (with_reducible exact Es_nil)
    | (with_reducible apply Es_cons)
    | (with_reducible apply E_tup)
    | (with_reducible apply E_lst)
    | (with_reducible apply E_bin)
    | (with_reducible apply E_neg)
    | (with_reducible apply E_not)
    | (with_reducible apply E_cmp)
    | (with_reducible apply E_chain)
    | (with_reducible apply E_sub)
    | (with_reducible apply E_slice)
    | (with_reducible apply E_rev)
    | (with_reducible apply E_isa)
    | (with_reducible apply E_bi)
    | (with_reducible apply E_call)
    | (with_reducible exact O_none)
    | (with_reducible apply O_some)
    | (with_reducible exact C_none)
    | (with_reducible apply C_some)
    | (with_reducible apply T_of)
    | (with_reducible apply I_over)
    | (with_reducible apply I_range1)
    | (with_reducible apply I_range2)
    | (with_reducible apply I_enum)
    | (with_reducible exact Ss_nil)
    | (with_reducible exact B_add)
    | (with_reducible exact B_sub)
    | (with_reducible apply B_mul; rotate_left)
    | (simp only [Sxs.app]) | rfl | exact t1 | exact B_mod (by decide) | exact fdiv_ok (by decide) (by decide) | exact B_mod (by omega))
        exact mulOk_small (lt_huge (k := 40) (by omega) (by decide)) (lt_huge (k := 40) (by omega) (by decide))
theorem atI_nat {α : Type} {xs : List α} {i : Int} (h : 0 ≤ i) : L2.atI xs i = xs[i.toNat]? := by
  unfold L2.atI L2.ixN
  rw [if_pos h]
  by_cases h2 : i < xs.length
  · rw [if_pos h2]; rfl
  · rw [if_neg h2]
    show none = _
    rw [List.getElem?_eq_none (by omega)]
theorem sp_some (hU : Φ 20 = some b__law_under) (h : Φ 21 = some b__law_some) {m : Nat} (v : Vat m S) {xs : List D} (hx : xs ≠ []) (hl : xs.length < 2 ^ 63) : ∃ d S', callF Φ Λ nm F (n + 2) (.fn 21) [.obj m, .lst xs] S = .ok d S' ∧ d ∈ xs ∧ VS m S S' := by
  have hp : 0 < xs.length := List.length_pos_iff.mpr hx
  obtain ⟨r, S', e, h0, h1, v'⟩ := sp_under (Λ := Λ) (nm := nm) (F := F) (n := n) hU v (k := (xs.length : Int)) (by omega) (by omega)
  have hr : r.toNat < xs.length := by omega
  refine ⟨xs[r.toNat], S', ?_, List.getElem_mem hr, v'⟩
  refine call_ret h rfl (R_ret (E_sub (E_var rfl) (E_call (Es_cons (E_var rfl) (Es_cons (E_bi (Es_cons (E_var rfl) Es_nil) rfl) Es_nil)) e) ?_))
  show L2.atI xs r = _
  rw [atI_nat h0, List.getElem?_eq_getElem hr]
/-- the shares that are drawn -/
def SHL : List (Int × Int) := [(1, 1), (1, 1), (1, 2), (2, 1), (2, 3), (3, 1), (1, 4), (5, 7), (20, 19), (1, 20), (3, 5)]
abbrev encF (s : Int × Int) : D := .tup [.int s.1, .int s.2]
theorem sp_share (hU : Φ 20 = some b__law_under) (hS : Φ 21 = some b__law_some) (h : Φ 72 = some b__law_share) {m : Nat} (v : Vat m S) : ∃ s S', callF Φ Λ nm F (n + 3) (.fn 72) [.obj m] S = .ok (encF s) S' ∧ s ∈ SHL ∧ VS m S S' := by
  obtain ⟨d, S', e, hd, v'⟩ := sp_some (Λ := Λ) (nm := nm) (F := F) (n := n) hU hS v (xs := SHL.map encF) (by decide) (by decide)
  obtain ⟨s, hs, rfl⟩ := List.mem_map.mp hd
  refine ⟨s, S', call_ret h rfl (R_ret (E_call ?_ e)), hs, v'⟩
  repeat (first
    | with_reducible exact E_lit
    | (with_reducible apply E_var; rfl)
    | (with_reducible apply R_ret)
    | (with_reducible apply R_asg)
    | (with_reducible apply R_par2)
    | (with_reducible apply R_par3)
    | (with_reducible apply R_asg2)
    | (with_reducible apply R_expr)
    | (with_reducible apply R_own)
    | (with_reducible apply R_retOwn; rfl)
    | (with_reducible apply R_frz)
    | (with_reducible apply R_retNew)
    | (with_reducible exact R_raise)
    | (with_reducible exact Es_nil)
    | (with_reducible apply Es_cons)
    | (with_reducible apply E_tup)
    | (with_reducible apply E_lst)
    | (with_reducible apply E_bin)
    | (with_reducible apply E_neg)
    | (with_reducible apply E_not)
    | (with_reducible apply E_cmp)
    | (with_reducible apply E_chain)
    | (with_reducible apply E_sub)
    | (with_reducible apply E_slice)
    | (with_reducible apply E_rev)
    | (with_reducible apply E_isa)
    | (with_reducible apply E_bi)
    | (with_reducible apply E_call)
    | (with_reducible exact O_none)
    | (with_reducible apply O_some)
    | (with_reducible exact C_none)
    | (with_reducible apply C_some)
    | (with_reducible apply T_of)
    | (with_reducible apply I_over)
    | (with_reducible apply I_range1)
    | (with_reducible apply I_range2)
    | (with_reducible apply I_enum)
    | (with_reducible exact Ss_nil)
    | (with_reducible exact B_add)
    | (with_reducible exact B_sub)
    | (with_reducible apply B_mul; rotate_left)
    | (simp only [Sxs.app]) | rfl )
theorem strict_len {z : Int} {k : Nat} (h : Builtin.Int.intBits z ≤ k) : z.natAbs < 2 ^ k := by
  unfold Builtin.Int.intBits at h
  split at h
  · rename_i h0
    have : z = 0 := by simpa using h0
    subst this
    exact Nat.pow_pos (by decide)
  · rename_i h0
    have h1 : z.natAbs ≠ 0 := by
      have : z ≠ 0 := by simpa using h0
      omega
    have h2 : z.natAbs.log2 < k := by omega
    exact (Nat.log2_lt h1).mp h2
theorem sp_vat (h : Φ 19 = some b__law_vat) {ns : List Int} (hb : ∀ z ∈ ns, Builtin.Int.intBits z ≤ 1048576) {k : Int} (hk : 0 ≤ k) (hk2 : k ≤ 1000) : ∃ S', callF Φ Λ nm F (n + 1) (.fn 19) [.lst (ns.map .int), .int k] S = .ok (.obj S.length) S' ∧ Vat S.length S' ∧ S'.length = S.length + 1 ∧ ∀ j, j < S.length → S'[j]? = S[j]? := by
  -- the cell
  obtain ⟨cell, hc, hc0, hcell⟩ : ∃ cell : Int, cell.natAbs < 2 ^ 1048576 ∧ 0 ≤ cell ∧ cell = (if h : k < ns.length then (if (ns[k.toNat]'(by omega)) < 0 then -(ns[k.toNat]'(by omega)) else (ns[k.toNat]'(by omega))) else 7919 * k + 43) := by
    refine ⟨_, ?_, ?_, rfl⟩
    · split
      · have := strict_len (hb _ (List.getElem_mem (show k.toNat < ns.length by omega)))
        split <;> omega
      · refine Nat.lt_of_lt_of_le (show _ < 2 ^ 30 by omega) (Nat.pow_le_pow_right (by decide) (by decide))
    · split
      · split <;> omega
      · omega
  obtain ⟨b, hbd⟩ : ∃ b, b = (cell * 131071 + 8191 * k + 5).fmod 2147483629 + 1 := ⟨_, rfl⟩
  have p1 := Int.fmod_nonneg_of_pos (cell * 131071 + 8191 * k + 5) (show (0 : Int) < 2147483629 by decide)
  have p2 := Int.fmod_lt_of_pos (cell * 131071 + 8191 * k + 5) (show (0 : Int) < 2147483629 by decide)
  refine ⟨S ++ [.lst [.int (if 10 ^ 18 ≤ cell then cell else 0), .int b]], ?_, ⟨if 10 ^ 18 ≤ cell then cell else 0, b, by simp, by split <;> omega, by omega, by omega⟩, by simp, fun j hj => List.getElem?_append_left hj⟩
  refine call_ret h rfl ?_
  refine R_asg (d := .int (7919 * k + 43)) (S1 := S) ?_ rfl ?_
  · repeat (first
    | with_reducible exact E_lit
    | (with_reducible apply E_var; rfl)
    | (with_reducible apply R_ret)
    | (with_reducible apply R_asg)
    | (with_reducible apply R_par2)
    | (with_reducible apply R_par3)
    | (with_reducible apply R_asg2)
    | (with_reducible apply R_expr)
    | (with_reducible apply R_own)
    | (with_reducible apply R_retOwn; rfl)
    | (with_reducible apply R_frz)
    | (with_reducible apply R_retNew)
    | (with_reducible exact R_raise)
    | (with_reducible exact Es_nil)
    | (with_reducible apply Es_cons)
    | (with_reducible apply E_tup)
    | (with_reducible apply E_lst)
    | (with_reducible apply E_bin)
    | (with_reducible apply E_neg)
    | (with_reducible apply E_not)
    | (with_reducible apply E_cmp)
    | (with_reducible apply E_chain)
    | (with_reducible apply E_sub)
    | (with_reducible apply E_slice)
    | (with_reducible apply E_rev)
    | (with_reducible apply E_isa)
    | (with_reducible apply E_bi)
    | (with_reducible apply E_call)
    | (with_reducible exact O_none)
    | (with_reducible apply O_some)
    | (with_reducible exact C_none)
    | (with_reducible apply C_some)
    | (with_reducible apply T_of)
    | (with_reducible apply I_over)
    | (with_reducible apply I_range1)
    | (with_reducible apply I_range2)
    | (with_reducible apply I_enum)
    | (with_reducible exact Ss_nil)
    | (with_reducible exact B_add)
    | (with_reducible exact B_sub)
    | (with_reducible apply B_mul; rotate_left)
    | (simp only [Sxs.app]) | rfl )
    exact mulOk_small (lt_huge (k := 40) (by decide) (by decide)) (lt_huge (k := 40) (by omega) (by decide))
  have tail : ∀ ρ : Iv.Env, ρ = [.val (.lst (ns.map .int)), .val (.int k), .val (.int cell)] → evSs (callF Φ Λ nm F n) nm F (.cons (.retNew (.cons (.ite (.cmp .ge (.var 2) (.bin .pow (.lit (.int 10)) (.lit (.int 18)))) (.var 2) (.lit (.int 0))) (.cons (.bin .add (.bin .mod (.bi .int (.cons (.bin .add (.bin .add (.bin .mul (.var 2) (.lit (.int 131071))) (.bin .mul (.lit (.int 8191)) (.var 1))) (.lit (.int 5))) .nil)) (.lit (.int 2147483629))) (.lit (.int 1))) .nil))) .nil) ρ S = .ok (.ret (.obj S.length)) (S ++ [.lst [.int (if 10 ^ 18 ≤ cell then cell else 0), .int b]]) := by
    rintro ρ rfl
    refine R_retNew (S1 := S) (ds := [.int (if 10 ^ 18 ≤ cell then cell else 0), .int b]) (Es_cons (S1 := S) ?_ (Es_cons (S1 := S) ?_ Es_nil)) rfl rfl
    · by_cases hge : 10 ^ 18 ≤ cell
      · rw [if_pos hge]
        refine E_ite_t (x := .bl (decide (10 ^ 18 ≤ cell))) (S1 := S) ?_ (congrArg some (decide_eq_true hge)) (E_var rfl)
        repeat (first
    | with_reducible exact E_lit
    | (with_reducible apply E_var; rfl)
    | (with_reducible apply R_ret)
    | (with_reducible apply R_asg)
    | (with_reducible apply R_par2)
    | (with_reducible apply R_par3)
    | (with_reducible apply R_asg2)
    | (with_reducible apply R_expr)
    | (with_reducible apply R_own)
    | (with_reducible apply R_retOwn; rfl)
    | (with_reducible apply R_frz)
    | (with_reducible apply R_retNew)
    | (with_reducible exact R_raise)
    | (with_reducible exact Es_nil)
    | (with_reducible apply Es_cons)
    | (with_reducible apply E_tup)
    | (with_reducible apply E_lst)
    | (with_reducible apply E_bin)
    | (with_reducible apply E_neg)
    | (with_reducible apply E_not)
    | (with_reducible apply E_cmp)
    | (with_reducible apply E_chain)
    | (with_reducible apply E_sub)
    | (with_reducible apply E_slice)
    | (with_reducible apply E_rev)
    | (with_reducible apply E_isa)
    | (with_reducible apply E_bi)
    | (with_reducible apply E_call)
    | (with_reducible exact O_none)
    | (with_reducible apply O_some)
    | (with_reducible exact C_none)
    | (with_reducible apply C_some)
    | (with_reducible apply T_of)
    | (with_reducible apply I_over)
    | (with_reducible apply I_range1)
    | (with_reducible apply I_range2)
    | (with_reducible apply I_enum)
    | (with_reducible exact Ss_nil)
    | (with_reducible exact B_add)
    | (with_reducible exact B_sub)
    | (with_reducible apply B_mul; rotate_left)
    | (simp only [Sxs.app]) | rfl )
      · rw [if_neg hge]
        refine E_ite_f (x := .bl (decide (10 ^ 18 ≤ cell))) (S1 := S) ?_ (congrArg some (decide_eq_false hge)) E_lit
        repeat (first
    | with_reducible exact E_lit
    | (with_reducible apply E_var; rfl)
    | (with_reducible apply R_ret)
    | (with_reducible apply R_asg)
    | (with_reducible apply R_par2)
    | (with_reducible apply R_par3)
    | (with_reducible apply R_asg2)
    | (with_reducible apply R_expr)
    | (with_reducible apply R_own)
    | (with_reducible apply R_retOwn; rfl)
    | (with_reducible apply R_frz)
    | (with_reducible apply R_retNew)
    | (with_reducible exact R_raise)
    | (with_reducible exact Es_nil)
    | (with_reducible apply Es_cons)
    | (with_reducible apply E_tup)
    | (with_reducible apply E_lst)
    | (with_reducible apply E_bin)
    | (with_reducible apply E_neg)
    | (with_reducible apply E_not)
    | (with_reducible apply E_cmp)
    | (with_reducible apply E_chain)
    | (with_reducible apply E_sub)
    | (with_reducible apply E_slice)
    | (with_reducible apply E_rev)
    | (with_reducible apply E_isa)
    | (with_reducible apply E_bi)
    | (with_reducible apply E_call)
    | (with_reducible exact O_none)
    | (with_reducible apply O_some)
    | (with_reducible exact C_none)
    | (with_reducible apply C_some)
    | (with_reducible apply T_of)
    | (with_reducible apply I_over)
    | (with_reducible apply I_range1)
    | (with_reducible apply I_range2)
    | (with_reducible apply I_enum)
    | (with_reducible exact Ss_nil)
    | (with_reducible exact B_add)
    | (with_reducible exact B_sub)
    | (with_reducible apply B_mul; rotate_left)
    | (simp only [Sxs.app]) | rfl )
    · rw [hbd]
      repeat (first
    | with_reducible exact E_lit
    | (with_reducible apply E_var; rfl)
    | (with_reducible apply R_ret)
    | (with_reducible apply R_asg)
    | (with_reducible apply R_par2)
    | (with_reducible apply R_par3)
    | (with_reducible apply R_asg2)
    | (with_reducible apply R_expr)
    | (with_reducible apply R_own)
    | (with_reducible apply R_retOwn; rfl)
    | (with_reducible apply R_frz)
    | (with_reducible apply R_retNew)
    | (with_reducible exact R_raise)
    | (with_reducible exact Es_nil)
    | (with_reducible apply Es_cons)
    | (with_reducible apply E_tup)
    | (with_reducible apply E_lst)
    | (with_reducible apply E_bin)
    | (with_reducible apply E_neg)
    | (with_reducible apply E_not)
    | (with_reducible apply E_cmp)
    | (with_reducible apply E_chain)
    | (with_reducible apply E_sub)
    | (with_reducible apply E_slice)
    | (with_reducible apply E_rev)
    | (with_reducible apply E_isa)
    | (with_reducible apply E_bi)
    | (with_reducible apply E_call)
    | (with_reducible exact O_none)
    | (with_reducible apply O_some)
    | (with_reducible exact C_none)
    | (with_reducible apply C_some)
    | (with_reducible apply T_of)
    | (with_reducible apply I_over)
    | (with_reducible apply I_range1)
    | (with_reducible apply I_range2)
    | (with_reducible apply I_enum)
    | (with_reducible exact Ss_nil)
    | (with_reducible exact B_add)
    | (with_reducible exact B_sub)
    | (with_reducible apply B_mul; rotate_left)
    | (simp only [Sxs.app]) | rfl | exact B_mod (by decide))
      · exact mulOk_small (lt_huge (k := 1048576) hc (by decide)) (lt_huge (k := 40) (by decide) (by decide))
      · exact mulOk_small (lt_huge (k := 40) (by decide) (by decide)) (lt_huge (k := 40) (by omega) (by decide))
  by_cases hlt : k < ns.length
  · refine R_ite_t (S1 := S) (k := decide (k < ((ns.map D.int).length : Int))) ?_ (decide_eq_true (by simpa using hlt)) ?_
    · repeat (first
    | with_reducible exact E_lit
    | (with_reducible apply E_var; rfl)
    | (with_reducible apply R_ret)
    | (with_reducible apply R_asg)
    | (with_reducible apply R_par2)
    | (with_reducible apply R_par3)
    | (with_reducible apply R_asg2)
    | (with_reducible apply R_expr)
    | (with_reducible apply R_own)
    | (with_reducible apply R_retOwn; rfl)
    | (with_reducible apply R_frz)
    | (with_reducible apply R_retNew)
    | (with_reducible exact R_raise)
    | (with_reducible exact Es_nil)
    | (with_reducible apply Es_cons)
    | (with_reducible apply E_tup)
    | (with_reducible apply E_lst)
    | (with_reducible apply E_bin)
    | (with_reducible apply E_neg)
    | (with_reducible apply E_not)
    | (with_reducible apply E_cmp)
    | (with_reducible apply E_chain)
    | (with_reducible apply E_sub)
    | (with_reducible apply E_slice)
    | (with_reducible apply E_rev)
    | (with_reducible apply E_isa)
    | (with_reducible apply E_bi)
    | (with_reducible apply E_call)
    | (with_reducible exact O_none)
    | (with_reducible apply O_some)
    | (with_reducible exact C_none)
    | (with_reducible apply C_some)
    | (with_reducible apply T_of)
    | (with_reducible apply I_over)
    | (with_reducible apply I_range1)
    | (with_reducible apply I_range2)
    | (with_reducible apply I_enum)
    | (with_reducible exact Ss_nil)
    | (with_reducible exact B_add)
    | (with_reducible exact B_sub)
    | (with_reducible apply B_mul; rotate_left)
    | (simp only [Sxs.app]) | rfl )
    · simp only [Sxs.app]
      refine R_asg (d := .int cell) (S1 := S) ?_ rfl (tail _ rfl)
      have hsub : subO (deref S (.lst (ns.map .int))) (.int k) = some (.int (ns[k.toNat]'(by omega))) := by
        show L2.atI (ns.map D.int) k = _
        rw [atI_nat hk, List.getElem?_map, List.getElem?_eq_getElem (show k.toNat < ns.length by omega)]; rfl
      rw [hcell, dif_pos hlt]
      repeat (first
    | with_reducible exact E_lit
    | (with_reducible apply E_var; rfl)
    | (with_reducible apply R_ret)
    | (with_reducible apply R_asg)
    | (with_reducible apply R_par2)
    | (with_reducible apply R_par3)
    | (with_reducible apply R_asg2)
    | (with_reducible apply R_expr)
    | (with_reducible apply R_own)
    | (with_reducible apply R_retOwn; rfl)
    | (with_reducible apply R_frz)
    | (with_reducible apply R_retNew)
    | (with_reducible exact R_raise)
    | (with_reducible exact Es_nil)
    | (with_reducible apply Es_cons)
    | (with_reducible apply E_tup)
    | (with_reducible apply E_lst)
    | (with_reducible apply E_bin)
    | (with_reducible apply E_neg)
    | (with_reducible apply E_not)
    | (with_reducible apply E_cmp)
    | (with_reducible apply E_chain)
    | (with_reducible apply E_sub)
    | (with_reducible apply E_slice)
    | (with_reducible apply E_rev)
    | (with_reducible apply E_isa)
    | (with_reducible apply E_bi)
    | (with_reducible apply E_call)
    | (with_reducible exact O_none)
    | (with_reducible apply O_some)
    | (with_reducible exact C_none)
    | (with_reducible apply C_some)
    | (with_reducible apply T_of)
    | (with_reducible apply I_over)
    | (with_reducible apply I_range1)
    | (with_reducible apply I_range2)
    | (with_reducible apply I_enum)
    | (with_reducible exact Ss_nil)
    | (with_reducible exact B_add)
    | (with_reducible exact B_sub)
    | (with_reducible apply B_mul; rotate_left)
    | (simp only [Sxs.app]) | rfl | exact hsub)
  · refine R_ite_f (S1 := S) (k := decide (k < ((ns.map D.int).length : Int))) ?_ (decide_eq_false (by simpa using hlt)) ?_
    · repeat (first
    | with_reducible exact E_lit
    | (with_reducible apply E_var; rfl)
    | (with_reducible apply R_ret)
    | (with_reducible apply R_asg)
    | (with_reducible apply R_par2)
    | (with_reducible apply R_par3)
    | (with_reducible apply R_asg2)
    | (with_reducible apply R_expr)
    | (with_reducible apply R_own)
    | (with_reducible apply R_retOwn; rfl)
    | (with_reducible apply R_frz)
    | (with_reducible apply R_retNew)
    | (with_reducible exact R_raise)
    | (with_reducible exact Es_nil)
    | (with_reducible apply Es_cons)
    | (with_reducible apply E_tup)
    | (with_reducible apply E_lst)
    | (with_reducible apply E_bin)
    | (with_reducible apply E_neg)
    | (with_reducible apply E_not)
    | (with_reducible apply E_cmp)
    | (with_reducible apply E_chain)
    | (with_reducible apply E_sub)
    | (with_reducible apply E_slice)
    | (with_reducible apply E_rev)
    | (with_reducible apply E_isa)
    | (with_reducible apply E_bi)
    | (with_reducible apply E_call)
    | (with_reducible exact O_none)
    | (with_reducible apply O_some)
    | (with_reducible exact C_none)
    | (with_reducible apply C_some)
    | (with_reducible apply T_of)
    | (with_reducible apply I_over)
    | (with_reducible apply I_range1)
    | (with_reducible apply I_range2)
    | (with_reducible apply I_enum)
    | (with_reducible exact Ss_nil)
    | (with_reducible exact B_add)
    | (with_reducible exact B_sub)
    | (with_reducible apply B_mul; rotate_left)
    | (simp only [Sxs.app]) | rfl )
    · simp only [Sxs.app]
      refine tail _ ?_
      rw [hcell, dif_neg hlt]
      rfl
theorem sp_truly (h : Φ 23 = some b__law_truly) (a b : Bool) : callF Φ Λ nm F (n + 1) (.fn 23) [.bl a, .bl b] S = .ok (.bl (a == b)) S := by
  refine call_ret h rfl (R_ret ?_)
  refine E_and_t (E_isa (E_var rfl) rfl) rfl (E_cmp (E_var rfl) (E_var rfl) ?_)
  cases a <;> cases b <;> rfl
/-! ### data that can be compared -/
def Lay (d : D) (p : PyData) (k : Nat) : Prop := toPy d = some p ∧ p.canLay0 = true ∧ p.depth ≤ k
def LayL (ds : List D) (ps : List PyData) (k : Nat) : Prop := toPys ds = some ps ∧ PyData.canLayAll0 ps = true ∧ PyData.depthAll ps ≤ k
theorem Lay.int (i : Int) (k : Nat) : Lay (.int i) (.int i) k := ⟨rfl, by simp [PyData.canLay0], by simp [PyData.depth]⟩
theorem Lay.bl (b : Bool) (k : Nat) : Lay (.bl b) (.bool b) k := ⟨rfl, by simp [PyData.canLay0], by simp [PyData.depth]⟩
theorem Lay.non (k : Nat) : Lay .non .none k := ⟨rfl, by simp [PyData.canLay0], by simp [PyData.depth]⟩
theorem LayL.nil (k : Nat) : LayL [] [] k := ⟨rfl, by simp [PyData.canLayAll0], by simp [PyData.depthAll]⟩
theorem LayL.cons {d : D} {ds : List D} {p : PyData} {ps : List PyData} {k : Nat} (a : Lay d p k) (b : LayL ds ps k) : LayL (d :: ds) (p :: ps) k := by
  refine ⟨?_, ?_, ?_⟩
  · rw [toPys, a.1, b.1]
  · simp [PyData.canLayAll0, a.2.1, b.2.1]
  · have := a.2.2
    have := b.2.2
    simp only [PyData.depthAll]
    omega
theorem Lay.tup {ds : List D} {ps : List PyData} {k : Nat} (a : LayL ds ps k) : Lay (.tup ds) (.tuple ps) (k + 1) := by
  refine ⟨by rw [toPy, a.1], by simp [PyData.canLay0, a.2.1], ?_⟩
  have := a.2.2
  simp only [PyData.depth]
  omega
theorem Lay.lst {ds : List D} {ps : List PyData} {k : Nat} (a : LayL ds ps k) : Lay (.lst ds) (.list ps) (k + 1) := by
  refine ⟨by rw [toPy, a.1], by simp [PyData.canLay0, a.2.1], ?_⟩
  have := a.2.2
  simp only [PyData.depth]
  omega
theorem LayL.map {α : Type} {g : α → D} {q : α → PyData} {k : Nat} : ∀ {l : List α}, (∀ a ∈ l, Lay (g a) (q a) k) → LayL (l.map g) (l.map q) k
  | [], _ => .nil k
  | a :: l, h => .cons (h a (by simp)) (LayL.map fun b hb => h b (List.mem_cons_of_mem _ hb))
theorem Lay.mono {d : D} {p : PyData} {j k : Nat} (a : Lay d p j) (h : j ≤ k) : Lay d p k := ⟨a.1, a.2.1, Nat.le_trans a.2.2 h⟩
theorem eqO_lay {d e : D} {p q : PyData} {j k : Nat} (a : Lay d p j) (b : Lay e q k) (hj : j ≤ 64) (hk : k ≤ 64) : eqO d e = some (PyData.eqv p q) := by
  unfold eqO
  rw [a.1, b.1]
  have h1 : SeqAt.shaped p = true := by unfold SeqAt.shaped; rw [a.2.1, decide_eq_true (Nat.le_trans a.2.2 hj)]; rfl
  have h2 : SeqAt.shaped q = true := by unfold SeqAt.shaped; rw [b.2.1, decide_eq_true (Nat.le_trans b.2.2 hk)]; rfl
  show (if SeqAt.shaped p && SeqAt.shaped q then some (PyData.eqv p q) else none) = _
  rw [h1, h2]; rfl
theorem eqO_same {d : D} {p : PyData} {j : Nat} (a : Lay d p j) (hj : j ≤ 64) : eqO d d = some true := by
  rw [eqO_lay a a hj hj, SeqAt.eqv_refl p a.2.1]
theorem cmpO_eq {d e : D} : cmpO .eq d e = eqO d e := rfl
theorem cmpO_ne {d e : D} : cmpO .ne d e = (eqO d e).map (!·) := rfl
theorem c_eq_int (i j : Int) : cmpO .eq (.int i) (.int j) = some (decide (i = j)) := by
  rw [cmpO_eq]
  rw [eqO_lay (.int i 0) (.int j 0) (by decide) (by decide)]
  simp only [PyData.eqv]
  rw [Bool.beq_eq_decide_eq]
theorem c_ne_int (i j : Int) : cmpO .ne (.int i) (.int j) = some (!decide (i = j)) := by
  rw [cmpO_ne, ← cmpO_eq, c_eq_int]; rfl
theorem c_eq_bl (i j : Bool) : cmpO .eq (.bl i) (.bl j) = some (i == j) := by
  rw [cmpO_eq]
  rw [eqO_lay (.bl i 0) (.bl j 0) (by decide) (by decide)]
  simp only [PyData.eqv]
theorem c_ne_bl (i j : Bool) : cmpO .ne (.bl i) (.bl j) = some (!(i == j)) := by
  rw [cmpO_ne, ← cmpO_eq, c_eq_bl]; rfl
theorem c_eq_nil {xs : List D} {ps : List PyData} {k : Nat} (h : LayL xs ps k) (hk : k < 64) : cmpO .eq (.lst xs) (.lst []) = some xs.isEmpty := by
  rw [cmpO_eq]
  rw [eqO_lay (.lst h) (.lst (.nil 0)) (by omega) (by decide)]
  have h1 := h.1
  cases xs with
  | nil => cases h1; simp [PyData.eqv, PyData.eqvAll]
  | cons x xs =>
    rw [toPys] at h1
    cases e1 : toPy x with
    | none => rw [e1] at h1; cases h1
    | some a =>
      rw [e1] at h1
      cases e2 : toPys xs with
      | none => rw [e2] at h1; cases h1
      | some b => rw [e2] at h1; cases h1; simp [PyData.eqv, PyData.eqvAll]
theorem c_ne_same {d : D} {p : PyData} {j : Nat} (a : Lay d p j) (hj : j ≤ 64) : cmpO .ne d d = some false := by
  rw [cmpO_ne, eqO_same a hj]; rfl
theorem layF (s : Int × Int) (k : Nat) : Lay (encF s) (.tuple [.int s.1, .int s.2]) (k + 1) := .tup (.cons (.int _ _) (.cons (.int _ _) (.nil _)))
/-! ### double comprehensions -/
theorem compLoop2_all {α : Type} {C : D → List D → Store → Rs D} {ρ : Iv.Env} {g : α → D} {f : Iv.Env → Store → Rs (List D)} {p : Pt} (k : α → List D) : ∀ {l : List α}, (∀ a ∈ l, ∃ ρ1, p.put (g a) ρ = some ρ1 ∧ f ρ1 S = .ok (k a) S) → compLoop2 p ρ f (l.map g) S = .ok (l.flatMap k) S
  | [], _ => rfl
  | a :: l, h => by
    obtain ⟨ρ1, h1, h2⟩ := h a (by simp)
    have ih := compLoop2_all (C := C) k (l := l) fun b hb => h b (List.mem_cons_of_mem _ hb)
    rw [List.map_cons, compLoop2, h1]
    show (match f ρ1 S with | .ok d S1 => (match compLoop2 p ρ f (l.map g) S1 with | .ok ds S2 => Rs.ok (d ++ ds) S2 | _ => .bad) | _ => .bad) = _
    rw [h2]
    show (match compLoop2 p ρ f (l.map g) S with | .ok ds S2 => Rs.ok (k a ++ ds) S2 | _ => .bad) = _
    rw [ih]; rfl
theorem elem2_of {fi : Iv.Env → Store → Rs (List D)} {p2 : Pt} {f : Iv.Env → Store → Rs (Option D)} {ρ : Iv.Env} {ys ds : List D} {S1 S2 : Store} (h : fi ρ S = .ok ys S1) (h2 : compLoop p2 (wipes ρ p2.vars) f ys S1 = .ok ds S2) : elem2 fi p2 f ρ S = .ok ds S2 := by
  unfold elem2
  rw [h]; exact h2
/-! ### common divisors -/
theorem gcd_loopP {b : Iv.Env → Store → Rs Ou} {c : Iv.Env → Store → Rs Bool} (P : Int → Int → Prop) (hP : ∀ x y, P x y → y ≠ 0 → P y (x.fmod y)) (hc : ∀ (x y : Int), P x y → c [.val (.int x), .val (.int y)] S = .ok (decide (y ≠ 0)) S) (hb : ∀ (x y : Int), y ≠ 0 → b [.val (.int x), .val (.int y)] S = .ok (.next [.val (.int y), .val (.int (x.fmod y))]) S) :
    ∀ (k : Nat) (x y : Int), P x y → y.natAbs < k → ∃ z, whileLoop c b k [.val (.int x), .val (.int y)] S = .ok (.next [.val (.int z), .val (.int 0)]) S ∧ z.natAbs = Int.gcd x y ∧ P z 0
  | 0, x, y, _, h => absurd h (Nat.not_lt_zero _)
  | k + 1, x, y, p, h => by
    by_cases hy : y = 0
    · subst hy
      exact ⟨x, while_stop (by rw [hc _ _ p]; rfl), by simp, p⟩
    · have hl : (x.fmod y).natAbs < y.natAbs := by
        rcases Int.lt_or_gt_of_ne hy with h0 | h0
        · have h1 := fmod_neg x h0
          omega
        · have h1 := Int.fmod_nonneg_of_pos x h0
          have h2 := Int.fmod_lt_of_pos x h0
          omega
      obtain ⟨z, e, g, p'⟩ := gcd_loopP P hP hc hb k y (x.fmod y) (hP x y p hy) (by omega)
      refine ⟨z, while_go (by rw [hc _ _ p, decide_eq_true hy]) (hb x y hy) e, ?_, p'⟩
      rw [g, gcd_fmod]
theorem sp_common_of (h : Φ 0 = some b_common_of) (a b : Int) (hF : b.natAbs < F) : callF Φ Λ nm F (n + 1) (.fn 0) [.int a, .int b] S = .ok (.int (Int.gcd a b)) S := by
  obtain ⟨z, e, g, p⟩ := gcd_loopP (S := S) (c := evT (callF Φ Λ nm F n) (.cmp .gt (.var 1) (.lit (.int 0)))) (b := evSs (callF Φ Λ nm F n) nm F (.cons (.par2 0 1 (.var 1) (.bin .mod (.var 0) (.var 1))) .nil)) (fun x y => 0 ≤ x ∧ 0 ≤ y)
    (fun x y p hy => ⟨p.2, Int.fmod_nonneg_of_pos x (by omega)⟩) (fun x y p => by
      have e : decide (y ≠ 0) = decide (0 < y) := by by_cases hy : 0 < y <;> simp [hy] <;> omega
      rw [e]
      repeat (first
    | with_reducible exact E_lit
    | (with_reducible apply E_var; rfl)
    | (with_reducible apply R_ret)
    | (with_reducible apply R_asg)
    | (with_reducible apply R_par2)
    | (with_reducible apply R_par3)
    | (with_reducible apply R_asg2)
    | (with_reducible apply R_expr)
    | (with_reducible apply R_own)
    | (with_reducible apply R_retOwn; rfl)
    | (with_reducible apply R_frz)
    | (with_reducible apply R_retNew)
    | (with_reducible exact R_raise)
    | (with_reducible exact Es_nil)
    | (with_reducible apply Es_cons)
    | (with_reducible apply E_tup)
    | (with_reducible apply E_lst)
    | (with_reducible apply E_bin)
    | (with_reducible apply E_neg)
    | (with_reducible apply E_not)
    | (with_reducible apply E_cmp)
    | (with_reducible apply E_chain)
    | (with_reducible apply E_sub)
    | (with_reducible apply E_slice)
    | (with_reducible apply E_rev)
    | (with_reducible apply E_isa)
    | (with_reducible apply E_bi)
    | (with_reducible apply E_call)
    | (with_reducible exact O_none)
    | (with_reducible apply O_some)
    | (with_reducible exact C_none)
    | (with_reducible apply C_some)
    | (with_reducible apply T_of)
    | (with_reducible apply I_over)
    | (with_reducible apply I_range1)
    | (with_reducible apply I_range2)
    | (with_reducible apply I_enum)
    | (with_reducible exact Ss_nil)
    | (with_reducible exact B_add)
    | (with_reducible exact B_sub)
    | (with_reducible apply B_mul; rotate_left)
    | (simp only [Sxs.app]) | rfl )) (fun x y hy => by
      repeat (first
    | with_reducible exact E_lit
    | (with_reducible apply E_var; rfl)
    | (with_reducible apply R_ret)
    | (with_reducible apply R_asg)
    | (with_reducible apply R_par2)
    | (with_reducible apply R_par3)
    | (with_reducible apply R_asg2)
    | (with_reducible apply R_expr)
    | (with_reducible apply R_own)
    | (with_reducible apply R_retOwn; rfl)
    | (with_reducible apply R_frz)
    | (with_reducible apply R_retNew)
    | (with_reducible exact R_raise)
    | (with_reducible exact Es_nil)
    | (with_reducible apply Es_cons)
    | (with_reducible apply E_tup)
    | (with_reducible apply E_lst)
    | (with_reducible apply E_bin)
    | (with_reducible apply E_neg)
    | (with_reducible apply E_not)
    | (with_reducible apply E_cmp)
    | (with_reducible apply E_chain)
    | (with_reducible apply E_sub)
    | (with_reducible apply E_slice)
    | (with_reducible apply E_rev)
    | (with_reducible apply E_isa)
    | (with_reducible apply E_bi)
    | (with_reducible apply E_call)
    | (with_reducible exact O_none)
    | (with_reducible apply O_some)
    | (with_reducible exact C_none)
    | (with_reducible apply C_some)
    | (with_reducible apply T_of)
    | (with_reducible apply I_over)
    | (with_reducible apply I_range1)
    | (with_reducible apply I_range2)
    | (with_reducible apply I_enum)
    | (with_reducible exact Ss_nil)
    | (with_reducible exact B_add)
    | (with_reducible exact B_sub)
    | (with_reducible apply B_mul; rotate_left)
    | (simp only [Sxs.app]) | rfl | exact B_mod hy)) F (if a < 0 then -a else a) (if b < 0 then -b else b) ⟨by split <;> omega, by split <;> omega⟩ (by split <;> omega)
  have hz : z = Int.gcd a b := by
    have e1 : Int.gcd (if a < 0 then -a else a) (if b < 0 then -b else b) = Int.gcd a b := by
      split <;> split <;> simp
    rw [e1] at g
    have := p.1
    omega
  refine call_ret h rfl ?_
  refine R_par2 (S1 := S) (S2 := S) (x := .int (if a < 0 then -a else a)) (y := .int (if b < 0 then -b else b)) ?_ ?_ ?_
  · repeat (first
    | with_reducible exact E_lit
    | (with_reducible apply E_var; rfl)
    | (with_reducible apply R_ret)
    | (with_reducible apply R_asg)
    | (with_reducible apply R_par2)
    | (with_reducible apply R_par3)
    | (with_reducible apply R_asg2)
    | (with_reducible apply R_expr)
    | (with_reducible apply R_own)
    | (with_reducible apply R_retOwn; rfl)
    | (with_reducible apply R_frz)
    | (with_reducible apply R_retNew)
    | (with_reducible exact R_raise)
    | (with_reducible exact Es_nil)
    | (with_reducible apply Es_cons)
    | (with_reducible apply E_tup)
    | (with_reducible apply E_lst)
    | (with_reducible apply E_bin)
    | (with_reducible apply E_neg)
    | (with_reducible apply E_not)
    | (with_reducible apply E_cmp)
    | (with_reducible apply E_chain)
    | (with_reducible apply E_sub)
    | (with_reducible apply E_slice)
    | (with_reducible apply E_rev)
    | (with_reducible apply E_isa)
    | (with_reducible apply E_bi)
    | (with_reducible apply E_call)
    | (with_reducible exact O_none)
    | (with_reducible apply O_some)
    | (with_reducible exact C_none)
    | (with_reducible apply C_some)
    | (with_reducible apply T_of)
    | (with_reducible apply I_over)
    | (with_reducible apply I_range1)
    | (with_reducible apply I_range2)
    | (with_reducible apply I_enum)
    | (with_reducible exact Ss_nil)
    | (with_reducible exact B_add)
    | (with_reducible exact B_sub)
    | (with_reducible apply B_mul; rotate_left)
    | (simp only [Sxs.app]) | rfl )
  · repeat (first
    | with_reducible exact E_lit
    | (with_reducible apply E_var; rfl)
    | (with_reducible apply R_ret)
    | (with_reducible apply R_asg)
    | (with_reducible apply R_par2)
    | (with_reducible apply R_par3)
    | (with_reducible apply R_asg2)
    | (with_reducible apply R_expr)
    | (with_reducible apply R_own)
    | (with_reducible apply R_retOwn; rfl)
    | (with_reducible apply R_frz)
    | (with_reducible apply R_retNew)
    | (with_reducible exact R_raise)
    | (with_reducible exact Es_nil)
    | (with_reducible apply Es_cons)
    | (with_reducible apply E_tup)
    | (with_reducible apply E_lst)
    | (with_reducible apply E_bin)
    | (with_reducible apply E_neg)
    | (with_reducible apply E_not)
    | (with_reducible apply E_cmp)
    | (with_reducible apply E_chain)
    | (with_reducible apply E_sub)
    | (with_reducible apply E_slice)
    | (with_reducible apply E_rev)
    | (with_reducible apply E_isa)
    | (with_reducible apply E_bi)
    | (with_reducible apply E_call)
    | (with_reducible exact O_none)
    | (with_reducible apply O_some)
    | (with_reducible exact C_none)
    | (with_reducible apply C_some)
    | (with_reducible apply T_of)
    | (with_reducible apply I_over)
    | (with_reducible apply I_range1)
    | (with_reducible apply I_range2)
    | (with_reducible apply I_enum)
    | (with_reducible exact Ss_nil)
    | (with_reducible exact B_add)
    | (with_reducible exact B_sub)
    | (with_reducible apply B_mul; rotate_left)
    | (simp only [Sxs.app]) | rfl )
  · refine R_while e ?_
    rw [← hz]
    repeat (first
    | with_reducible exact E_lit
    | (with_reducible apply E_var; rfl)
    | (with_reducible apply R_ret)
    | (with_reducible apply R_asg)
    | (with_reducible apply R_par2)
    | (with_reducible apply R_par3)
    | (with_reducible apply R_asg2)
    | (with_reducible apply R_expr)
    | (with_reducible apply R_own)
    | (with_reducible apply R_retOwn; rfl)
    | (with_reducible apply R_frz)
    | (with_reducible apply R_retNew)
    | (with_reducible exact R_raise)
    | (with_reducible exact Es_nil)
    | (with_reducible apply Es_cons)
    | (with_reducible apply E_tup)
    | (with_reducible apply E_lst)
    | (with_reducible apply E_bin)
    | (with_reducible apply E_neg)
    | (with_reducible apply E_not)
    | (with_reducible apply E_cmp)
    | (with_reducible apply E_chain)
    | (with_reducible apply E_sub)
    | (with_reducible apply E_slice)
    | (with_reducible apply E_rev)
    | (with_reducible apply E_isa)
    | (with_reducible apply E_bi)
    | (with_reducible apply E_call)
    | (with_reducible exact O_none)
    | (with_reducible apply O_some)
    | (with_reducible exact C_none)
    | (with_reducible apply C_some)
    | (with_reducible apply T_of)
    | (with_reducible apply I_over)
    | (with_reducible apply I_range1)
    | (with_reducible apply I_range2)
    | (with_reducible apply I_enum)
    | (with_reducible exact Ss_nil)
    | (with_reducible exact B_add)
    | (with_reducible exact B_sub)
    | (with_reducible apply B_mul; rotate_left)
    | (simp only [Sxs.app]) | rfl )
theorem sp_law_gcd (h : Φ 24 = some b__law_gcd) (a b : Int) (hF : b.natAbs < F) : callF Φ Λ nm F (n + 1) (.fn 24) [.int a, .int b] S = .ok (.int (Int.gcd a b)) S := by
  obtain ⟨z, e, g, p⟩ := gcd_loopP (S := S) (c := evT (callF Φ Λ nm F n) (.cmp .ne (.var 1) (.lit (.int 0)))) (b := evSs (callF Φ Λ nm F n) nm F (.cons (.par2 0 1 (.var 1) (.bin .mod (.var 0) (.var 1))) .nil)) (fun _ _ => True)
    (fun _ _ _ _ => trivial) (fun x y _ => by
      have e : decide (y ≠ 0) = !decide (y = 0) := by by_cases hy : y = 0 <;> simp [hy]
      rw [e]
      repeat (first
    | with_reducible exact E_lit
    | (with_reducible apply E_var; rfl)
    | (with_reducible apply R_ret)
    | (with_reducible apply R_asg)
    | (with_reducible apply R_par2)
    | (with_reducible apply R_par3)
    | (with_reducible apply R_asg2)
    | (with_reducible apply R_expr)
    | (with_reducible apply R_own)
    | (with_reducible apply R_retOwn; rfl)
    | (with_reducible apply R_frz)
    | (with_reducible apply R_retNew)
    | (with_reducible exact R_raise)
    | (with_reducible exact Es_nil)
    | (with_reducible apply Es_cons)
    | (with_reducible apply E_tup)
    | (with_reducible apply E_lst)
    | (with_reducible apply E_bin)
    | (with_reducible apply E_neg)
    | (with_reducible apply E_not)
    | (with_reducible apply E_cmp)
    | (with_reducible apply E_chain)
    | (with_reducible apply E_sub)
    | (with_reducible apply E_slice)
    | (with_reducible apply E_rev)
    | (with_reducible apply E_isa)
    | (with_reducible apply E_bi)
    | (with_reducible apply E_call)
    | (with_reducible exact O_none)
    | (with_reducible apply O_some)
    | (with_reducible exact C_none)
    | (with_reducible apply C_some)
    | (with_reducible apply T_of)
    | (with_reducible apply I_over)
    | (with_reducible apply I_range1)
    | (with_reducible apply I_range2)
    | (with_reducible apply I_enum)
    | (with_reducible exact Ss_nil)
    | (with_reducible exact B_add)
    | (with_reducible exact B_sub)
    | (with_reducible apply B_mul; rotate_left)
    | (simp only [Sxs.app]) | rfl | exact c_ne_int _ _)) (fun x y hy => by
      repeat (first
    | with_reducible exact E_lit
    | (with_reducible apply E_var; rfl)
    | (with_reducible apply R_ret)
    | (with_reducible apply R_asg)
    | (with_reducible apply R_par2)
    | (with_reducible apply R_par3)
    | (with_reducible apply R_asg2)
    | (with_reducible apply R_expr)
    | (with_reducible apply R_own)
    | (with_reducible apply R_retOwn; rfl)
    | (with_reducible apply R_frz)
    | (with_reducible apply R_retNew)
    | (with_reducible exact R_raise)
    | (with_reducible exact Es_nil)
    | (with_reducible apply Es_cons)
    | (with_reducible apply E_tup)
    | (with_reducible apply E_lst)
    | (with_reducible apply E_bin)
    | (with_reducible apply E_neg)
    | (with_reducible apply E_not)
    | (with_reducible apply E_cmp)
    | (with_reducible apply E_chain)
    | (with_reducible apply E_sub)
    | (with_reducible apply E_slice)
    | (with_reducible apply E_rev)
    | (with_reducible apply E_isa)
    | (with_reducible apply E_bi)
    | (with_reducible apply E_call)
    | (with_reducible exact O_none)
    | (with_reducible apply O_some)
    | (with_reducible exact C_none)
    | (with_reducible apply C_some)
    | (with_reducible apply T_of)
    | (with_reducible apply I_over)
    | (with_reducible apply I_range1)
    | (with_reducible apply I_range2)
    | (with_reducible apply I_enum)
    | (with_reducible exact Ss_nil)
    | (with_reducible exact B_add)
    | (with_reducible exact B_sub)
    | (with_reducible apply B_mul; rotate_left)
    | (simp only [Sxs.app]) | rfl | exact B_mod hy)) F a b trivial hF
  refine call_ret h rfl ?_
  refine R_while e (R_ret (E_bi (Es_cons (E_var rfl) Es_nil) ?_))
  show some (D.int (if z < 0 then -z else z)) = _
  congr 2
  split <;> omega
end
end Iv
set_option exponentiation.threshold 20000
/-! MQ: fractions. -/
namespace Iv
open PySem Sh
abbrev encQ (q : Rat) : D := .tup [.int q.num, .int q.den]
/-- neither part of it is of more than k figures -/
def Lg (k : Nat) (q : Rat) : Prop := q.num.natAbs < 10 ^ k ∧ q.den < 10 ^ k
theorem Lg.mono {j k : Nat} {q : Rat} (h : Lg j q) (hk : j ≤ k) : Lg k q := ⟨Nat.lt_of_lt_of_le h.1 (Nat.pow_le_pow_right (by decide) hk), Nat.lt_of_lt_of_le h.2 (Nat.pow_le_pow_right (by decide) hk)⟩
theorem divInt_of {t b c n d : Int} (hc : c ≠ 0) (hd : 0 < d) (ht : t = n * c) (hb : b = d * c) (hg : Int.gcd n d = 1) : (Rat.divInt t b).num = n ∧ ((Rat.divInt t b).den : Int) = d := by
  rw [ht, hb, Rat.divInt_mul_right hc]
  refine ⟨?_, ?_⟩
  · rw [Rat.num_divInt, Int.gcd_comm, hg, Int.sign_eq_one_of_pos hd]
    simp
  · rw [Rat.den_divInt, if_neg (by omega), Int.gcd_comm, hg]
    omega
theorem gcd_div {t b : Int} (hb : b ≠ 0) : ∃ n d g : Int, 0 < g ∧ g = Int.gcd t b ∧ t = n * g ∧ b = d * g ∧ Int.gcd n d = 1 := by
  have hg : 0 < Int.gcd t b := Int.gcd_pos_of_ne_zero_right t hb
  obtain ⟨n, hn⟩ := Int.gcd_dvd_left (a := t) (b := b)
  obtain ⟨d, hd⟩ := Int.gcd_dvd_right (a := t) (b := b)
  refine ⟨n, d, Int.gcd t b, by omega, rfl, by rw [Int.mul_comm]; exact hn, by rw [Int.mul_comm]; exact hd, ?_⟩
  have e : Int.gcd ((Int.gcd t b : Int) * n) ((Int.gcd t b : Int) * d) = (Int.gcd t b) * Int.gcd n d := by
    rw [Int.gcd_mul_left]; simp
  rw [← hn, ← hd] at e
  have e2 : Int.gcd t b * 1 = Int.gcd t b * Int.gcd n d := by omega
  exact (Nat.eq_of_mul_eq_mul_left hg e2).symm
theorem low_num {t b : Int} (hb : b ≠ 0) {c : Int} (hc : c = (if 0 < b then (Int.gcd t b : Int) else -(Int.gcd t b : Int))) : t.fdiv c = (Rat.divInt t b).num ∧ b.fdiv c = (Rat.divInt t b).den := by
  obtain ⟨n, d, g, hg, eg, et, eb, cp⟩ := gcd_div (t := t) hb
  rw [← eg] at hc
  by_cases h : 0 < b
  · rw [if_pos h] at hc
    subst hc
    have hd : 0 < d := by
      rcases Int.lt_or_le 0 d with z | z
      · exact z
      · have := Int.mul_nonpos_of_nonpos_of_nonneg z (Int.le_of_lt hg)
        omega
    obtain ⟨h1, h2⟩ := divInt_of (by omega) hd et eb cp
    rw [h1, h2]
    exact ⟨by rw [et]; exact Int.mul_fdiv_cancel n (by omega), by rw [eb]; exact Int.mul_fdiv_cancel d (by omega)⟩
  · rw [if_neg h] at hc
    subst hc
    have hd : 0 < -d := by
      rcases Int.lt_or_le 0 (-d) with z | z
      · exact z
      · have : 0 ≤ d * g := Int.mul_nonneg (by omega) (Int.le_of_lt hg)
        omega
    have et' : t = (-n) * (-g) := by rw [Int.neg_mul_neg]; exact et
    have eb' : b = (-d) * (-g) := by rw [Int.neg_mul_neg]; exact eb
    obtain ⟨h1, h2⟩ := divInt_of (by omega) hd et' eb' (by rw [Int.gcd_neg, Int.neg_gcd]; exact cp)
    rw [h1, h2]
    exact ⟨by rw [et']; exact Int.mul_fdiv_cancel _ (by omega), by rw [eb']; exact Int.mul_fdiv_cancel _ (by omega)⟩
theorem lg_divInt {k : Nat} {t b : Int} (hb : b ≠ 0) (ht : t.natAbs < 10 ^ k) (hb2 : b.natAbs < 10 ^ k) : Lg k (Rat.divInt t b) := by
  obtain ⟨n, d, g, hg, eg, et, eb, cp⟩ := gcd_div (t := t) hb
  have h1 : (Rat.divInt t b).num.natAbs ≤ t.natAbs ∧ (Rat.divInt t b).den ≤ b.natAbs := by
    have key : ∀ n' c : Int, c ≠ 0 → n'.natAbs ≤ (n' * c).natAbs := fun n' c hc => by
      rw [Int.natAbs_mul]
      exact Nat.le_mul_of_pos_right _ (by omega)
    rcases Int.lt_or_gt_of_ne hb with h | h
    · have hd : 0 < -d := by
        rcases Int.lt_or_le 0 (-d) with z | z
        · exact z
        · have : 0 ≤ d * g := Int.mul_nonneg (by omega) (Int.le_of_lt hg)
          omega
      have et' : t = (-n) * (-g) := by rw [Int.neg_mul_neg]; exact et
      have eb' : b = (-d) * (-g) := by rw [Int.neg_mul_neg]; exact eb
      obtain ⟨h1, h2⟩ := divInt_of (by omega) hd et' eb' (by rw [Int.gcd_neg, Int.neg_gcd]; exact cp)
      have k1 := key (-n) (-g) (by omega)
      have k2 := key (-d) (-g) (by omega)
      rw [← et'] at k1
      rw [← eb'] at k2
      rw [h1]
      omega
    · have hd : 0 < d := by
        rcases Int.lt_or_le 0 d with z | z
        · exact z
        · have := Int.mul_nonpos_of_nonpos_of_nonneg z (Int.le_of_lt hg)
          omega
      obtain ⟨h1, h2⟩ := divInt_of (by omega) hd et eb cp
      have k1 := key n g (by omega)
      have k2 := key d g (by omega)
      rw [← et] at k1
      rw [← eb] at k2
      rw [h1]
      omega
  exact ⟨by omega, by omega⟩
theorem pow_two {k : Nat} (h : k ≤ 2000) {x : Nat} (hx : x < 10 ^ k) : x < 2 ^ 8000 := by
  have h1 : (10 : Nat) ^ k ≤ 16 ^ k := Nat.pow_le_pow_left (by decide) k
  have h2 : (16 : Nat) ^ k ≤ 16 ^ 2000 := Nat.pow_le_pow_right (by decide) h
  have h3 : (16 : Nat) ^ 2000 = 2 ^ 8000 := by rw [show (16 : Nat) = 2 ^ 4 from rfl, ← Nat.pow_mul]
  omega
theorem mulOk_fig {j k : Nat} {x y : Int} (hx : x.natAbs < 10 ^ j) (hy : y.natAbs < 10 ^ k) (hj : j ≤ 2000) (hk : k ≤ 2000) : mulOk x y = true :=
  mulOk_small (lt_huge (pow_two hj hx) (by decide)) (lt_huge (pow_two hk hy) (by decide))
theorem mul_fig {j k : Nat} {x y : Int} (hx : x.natAbs < 10 ^ j) (hy : y.natAbs < 10 ^ k) : (x * y).natAbs < 10 ^ (j + k) := by
  rw [Int.natAbs_mul, Nat.pow_add]
  exact Nat.mul_lt_mul_of_lt_of_lt hx hy
theorem add_fig {k : Nat} {x y : Int} (hx : x.natAbs < 10 ^ k) (hy : y.natAbs < 10 ^ k) : (x + y).natAbs < 10 ^ (k + 1) := by
  have h1 := Int.natAbs_add_le x y
  rw [Nat.pow_succ]
  omega
theorem lg_mul {j k : Nat} {x y : Rat} (hx : Lg j x) (hy : Lg k y) : Lg (j + k) (x * y) := by
  rw [← Rat.num_divInt_den x, ← Rat.num_divInt_den y, Rat.divInt_mul_divInt]
  have := x.den_nz
  have := y.den_nz
  refine lg_divInt (Int.mul_ne_zero (by omega) (by omega)) (mul_fig hx.1 hy.1) (mul_fig (by rw [Int.natAbs_natCast]; exact hx.2) (by rw [Int.natAbs_natCast]; exact hy.2))
theorem lg_add {j k : Nat} {x y : Rat} (hx : Lg j x) (hy : Lg k y) : Lg (j + k + 1) (x + y) := by
  rw [← Rat.num_divInt_den x, ← Rat.num_divInt_den y, Rat.divInt_add_divInt _ _ (by have := x.den_nz; omega) (by have := y.den_nz; omega)]
  have h1 := x.den_nz
  have h2 := y.den_nz
  have m1 := mul_fig hx.1 (show ((y.den : Int)).natAbs < 10 ^ k by rw [Int.natAbs_natCast]; exact hy.2)
  have m2 := mul_fig hy.1 (show ((x.den : Int)).natAbs < 10 ^ j by rw [Int.natAbs_natCast]; exact hx.2)
  rw [Nat.add_comm k j] at m2
  have m3 := mul_fig (show ((x.den : Int)).natAbs < 10 ^ j by rw [Int.natAbs_natCast]; exact hx.2) (show ((y.den : Int)).natAbs < 10 ^ k by rw [Int.natAbs_natCast]; exact hy.2)
  exact lg_divInt (Int.mul_ne_zero (by omega) (by omega)) (add_fig m1 m2) (Nat.lt_of_lt_of_le m3 (Nat.pow_le_pow_right (by decide) (by omega)))
theorem lg_neg {k : Nat} {x : Rat} (hx : Lg k x) : Lg k (-x) := by
  refine ⟨?_, ?_⟩
  · rw [Rat.neg_num, Int.natAbs_neg]; exact hx.1
  · rw [Rat.neg_den]; exact hx.2
theorem lg_sub {j k : Nat} {x y : Rat} (hx : Lg j x) (hy : Lg k y) : Lg (j + k + 1) (x - y) := by
  rw [Rat.sub_eq_add_neg]
  exact lg_add hx (lg_neg hy)
section
variable {Φ : Nat → Option FnI} {Λ : Nat → Option LamI} {nm : Names} {n : Nat} {S : Store}
abbrev FF4 : Nat := 10 ^ 4000
theorem fig_FF {k : Nat} {x : Int} (h : x.natAbs < 10 ^ k) (hk : k ≤ 2000) : x.natAbs < FF4 := Nat.lt_of_lt_of_le h (Nat.pow_le_pow_right (by decide) (by omega))
theorem fdiv_fig {k : Nat} {i j : Int} (hj : j ≠ 0) (h : j.natAbs < 10 ^ k) (hk : k ≤ 2000) : binO .fdiv (.int i) (.int j) = some (.int (i.fdiv j)) := by
  refine B_fdiv hj ?_
  have := (Nat.log2_lt (show j.natAbs ≠ 0 by omega)).mpr (pow_two hk h)
  omega
theorem gcd_fig {k : Nat} {t b : Int} (hb : b ≠ 0) (h : b.natAbs < 10 ^ k) : (Int.gcd t b : Int).natAbs < 10 ^ k := by
  obtain ⟨n, d, g, hg, eg, et, eb, cp⟩ := gcd_div (t := t) hb
  rw [← eg]
  have : g.natAbs ≤ b.natAbs := by
    rw [eb, Int.natAbs_mul]
    refine Nat.le_mul_of_pos_left _ ?_
    rcases Nat.eq_zero_or_pos d.natAbs with z | z
    · have : d = 0 := by omega
      subst this
      simp at eb
      exact absurd eb hb
    · exact z
  omega
theorem sp_low (hc : Φ 0 = some b_common_of) (h : Φ 4 = some b_low_points) {k : Nat} {t b : Int} (hb : b ≠ 0) (hbk : b.natAbs < 10 ^ k) (hk : k ≤ 2000) : callF Φ Λ nm FF4 (n + 2) (.fn 4) [.int t, .int b] S = .ok (encQ (Rat.divInt t b)) S := by
  have gp : 0 < Int.gcd t b := Int.gcd_pos_of_ne_zero_right t hb
  obtain ⟨c, ec⟩ : ∃ c, c = (if 0 < b then (Int.gcd t b : Int) else -(Int.gcd t b : Int)) := ⟨_, rfl⟩
  obtain ⟨q1, q2⟩ := low_num (t := t) hb ec
  have gf := gcd_fig (t := t) hb hbk
  have c0 : c ≠ 0 := by rw [ec]; split <;> omega
  have cf : c.natAbs < 10 ^ k := by rw [ec]; split <;> omega
  refine call_ret h rfl (R_asg (d := .int (Int.gcd t b)) (S1 := S) (E_call (Es_cons (E_var rfl) (Es_cons (E_var rfl) Es_nil)) (sp_common_of hc t b (fig_FF hbk hk))) rfl (R_asg (d := .int c) (S1 := S) ?_ rfl (R_ret ?_)))
  · rw [ec]
    by_cases h0 : 0 < b
    · rw [if_pos h0]
      exact E_ite_t (x := .bl (decide (0 < b))) (E_cmp (E_var rfl) E_lit rfl) (congrArg some (decide_eq_true h0)) (E_var rfl)
    · rw [if_neg h0]
      exact E_ite_f (x := .bl (decide (0 < b))) (E_cmp (E_var rfl) E_lit rfl) (congrArg some (decide_eq_false h0)) (E_neg (E_var rfl))
  · unfold encQ
    rw [← q1, ← q2]
    exact E_tup (Es_cons (E_bin (E_var rfl) (E_var rfl) (fdiv_fig c0 cf hk)) (Es_cons (E_bin (E_var rfl) (E_var rfl) (fdiv_fig c0 cf hk)) Es_nil)) rfl
theorem sp_law_low (hc : Φ 24 = some b__law_gcd) (h : Φ 25 = some b__law_low) {k : Nat} {t b : Int} (hb : b ≠ 0) (hbk : b.natAbs < 10 ^ k) (hk : k ≤ 2000) : callF Φ Λ nm FF4 (n + 2) (.fn 25) [.int t, .int b] S = .ok (encQ (Rat.divInt t b)) S := by
  have gp : 0 < Int.gcd t b := Int.gcd_pos_of_ne_zero_right t hb
  obtain ⟨c, ec⟩ : ∃ c, c = (if 0 < b then (Int.gcd t b : Int) else -(Int.gcd t b : Int)) := ⟨_, rfl⟩
  obtain ⟨q1, q2⟩ := low_num (t := t) hb ec
  have gf := gcd_fig (t := t) hb hbk
  have c0 : c ≠ 0 := by rw [ec]; split <;> omega
  have cf : c.natAbs < 10 ^ k := by rw [ec]; split <;> omega
  refine call_ret h rfl (R_asg (d := .int c) (S1 := S) (E_bin (x := .int (Int.gcd t b)) (y := .int (if 0 < b then 1 else -1)) (S1 := S) (E_call (Es_cons (E_var rfl) (Es_cons (E_var rfl) Es_nil)) (sp_law_gcd hc t b (fig_FF hbk hk))) ?_ ?_) rfl (R_ret ?_))
  · by_cases h0 : 0 < b
    · rw [if_pos h0]
      exact E_ite_t (x := .bl (decide (0 < b))) (E_cmp (E_var rfl) E_lit rfl) (congrArg some (decide_eq_true h0)) E_lit
    · rw [if_neg h0]
      exact E_ite_f (x := .bl (decide (0 < b))) (E_cmp (E_var rfl) E_lit rfl) (congrArg some (decide_eq_false h0)) (E_neg E_lit)
  · rw [B_mul (mulOk_fig (k := 1) gf (by split <;> decide) hk (by decide)), ec]
    congr 2
    split <;> omega
  · unfold encQ
    rw [← q1, ← q2]
    exact E_tup (Es_cons (E_bin (E_var rfl) (E_var rfl) (fdiv_fig c0 cf hk)) (Es_cons (E_bin (E_var rfl) (E_var rfl) (fdiv_fig c0 cf hk)) Es_nil)) rfl
/-! ### sums -/
def qsum (ps : List (Int × Int)) : Rat := ps.foldl (fun acc p => acc + Rat.divInt p.1 p.2) 0
theorem qsum_snoc (ps : List (Int × Int)) (p : Int × Int) : qsum (ps ++ [p]) = qsum ps + Rat.divInt p.1 p.2 := by unfold qsum; rw [List.foldl_append]; rfl
theorem foldl_add {α : Type} (f : α → Rat) : ∀ (l : List α) (z : Rat), l.foldl (fun acc a => acc + f a) z = z + l.foldl (fun acc a => acc + f a) 0
  | [], z => by rw [List.foldl_nil, List.foldl_nil, Rat.add_zero]
  | a :: l, z => by rw [List.foldl_cons, List.foldl_cons, foldl_add f l (z + f a), foldl_add f l (0 + f a), Rat.zero_add, Rat.add_assoc]
theorem sp_law_sum (hg : Φ 24 = some b__law_gcd) (hl : Φ 25 = some b__law_low) (h : Φ 26 = some b__law_sum) {k : Nat} {ps : List (Int × Int)} (hp : ∀ p ∈ ps, 0 < p.2 ∧ p.1.natAbs < 10 ^ k ∧ p.2.natAbs < 10 ^ k) (hk : ps.length * (k + 1) + k ≤ 1900) :
    callF Φ Λ nm FF4 (n + 3) (.fn 26) [.lst (ps.map encF)] S = .ok (encQ (qsum ps)) S := by
  refine call_ret h rfl (R_asg (d := .tup [.int 0, .int 1]) (S1 := S) (ρ1 := [.val (.lst (ps.map encF)), .val (.int 0), .val (.int 1), .none, .none]) (E_tup (Es_cons E_lit (Es_cons E_lit Es_nil)) rfl) rfl ?_)
  obtain ⟨ρ', S', e, hI⟩ := for_inv (b := evSs (callF Φ Λ nm FF4 (n + 2)) nm FF4 (.cons (.asg (.p2 (.nm 1) (.nm 2)) (.call 25 (.cons (.bin .add (.bin .mul (.var 1) (.var 4)) (.bin .mul (.var 3) (.var 2))) (.cons (.bin .mul (.var 2) (.var 4)) .nil)))) .nil)) (p := .p2 (.nm 3) (.nm 4))
    (fun i ρ S' => S = S' ∧ ∃ a3 a4 acc, Lg (i * (k + 1) + 1) acc ∧ acc = qsum (ps.take i) ∧ ρ = [.val (.lst (ps.map encF)), .val (.int acc.num), .val (.int acc.den), a3, a4]) (xs := ps.map encF) (i := 0) (ρ := [.val (.lst (ps.map encF)), .val (.int 0), .val (.int 1), .none, .none]) (S := S)
    (fun j x ρ S' hx hI => by
      obtain ⟨rfl, a3, a4, acc, hb, ha, rfl⟩ := hI
      rw [Nat.zero_add] at *
      rw [List.getElem?_map] at hx
      cases hj : ps[j]? with
      | none => rw [hj] at hx; cases hx
      | some p =>
        rw [hj] at hx
        cases hx
        have hm := List.mem_of_getElem? hj
        have hjl := (List.getElem?_eq_some_iff.mp hj).1
        obtain ⟨p0, p1, p2⟩ := hp p hm
        have hjk : j * (k + 1) + (k + 1) ≤ ps.length * (k + 1) := by rw [← Nat.succ_mul]; exact Nat.mul_le_mul_right _ hjl
        have hd : ((acc.den : Int)).natAbs < 10 ^ (j * (k + 1) + 1) := by rw [Int.natAbs_natCast]; exact hb.2
        have m1 := mul_fig hb.1 p2
        have m2 := mul_fig p1 hd
        have m3 := mul_fig hd p2
        rw [Nat.add_comm k] at m2
        have dn := acc.den_nz
        have d0 : (acc.den : Int) * p.2 ≠ 0 := Int.mul_ne_zero (by omega) (by omega)
        have eq : Rat.divInt (acc.num * p.2 + p.1 * acc.den) (acc.den * p.2) = acc + Rat.divInt p.1 p.2 := by
          rw [← Rat.divInt_add_divInt _ _ (by omega) (by omega), Rat.num_divInt_den]
        refine ⟨[.val (.lst (ps.map encF)), .val (.int acc.num), .val (.int acc.den), .val (.int p.1), .val (.int p.2)], [.val (.lst (ps.map encF)), .val (.int (acc + Rat.divInt p.1 p.2).num), .val (.int (acc + Rat.divInt p.1 p.2).den), .val (.int p.1), .val (.int p.2)], S, rfl, ?_, rfl, _, _, _, ?_, ?_, rfl⟩
        · refine R_asg (d := encQ (acc + Rat.divInt p.1 p.2)) (S1 := S) (E_call (ds := [.int (acc.num * p.2 + p.1 * acc.den), .int (acc.den * p.2)]) (S1 := S) (Es_cons (E_bin (E_bin (E_var rfl) (E_var rfl) (B_mul (mulOk_fig hb.1 p2 (by omega) (by omega)))) (E_bin (E_var rfl) (E_var rfl) (B_mul (mulOk_fig p1 hd (by omega) (by omega)))) B_add) (Es_cons (E_bin (E_var rfl) (E_var rfl) (B_mul (mulOk_fig hd p2 (by omega) (by omega)))) Es_nil)) ?_) rfl Ss_nil
          rw [← eq]
          exact sp_law_low hg hl d0 m3 (by omega)
        · rw [← eq]
          have := lg_divInt d0 (add_fig m1 m2) (Nat.lt_of_lt_of_le m3 (Nat.pow_le_pow_right (by decide) (Nat.le_succ _)))
          exact this.mono (by rw [Nat.succ_mul]; omega)
        · rw [List.take_add_one, hj, ha]
          exact (qsum_snoc _ _).symm) ⟨rfl, _, _, 0, (show Lg 1 0 from ⟨by decide, by decide⟩).mono (by omega), rfl, rfl⟩
  obtain ⟨rfl, a3, a4, acc, hb, ha, rfl⟩ := hI
  have hz : acc = qsum ps := by rw [ha, Nat.zero_add, List.length_map, List.take_length]
  subst hz
  exact R_for (I_over (E_var rfl) rfl) e (R_ret (E_tup (Es_cons (E_var rfl) (Es_cons (E_var rfl) Es_nil)) rfl))
/-! ### points -/
abbrev Pnt := Rat × Rat
abbrev encP (p : Pnt) : D := .tup [encQ p.1, encQ p.2]
def LgP (k : Nat) (p : Pnt) : Prop := Lg k p.1 ∧ Lg k p.2
def crossQ (o a b : Pnt) : Rat := (a.1 - o.1) * (b.2 - o.2) - (a.2 - o.2) * (b.1 - o.1)
theorem qsum_sub (x y : Rat) : qsum [(x.num, (x.den : Int)), (-y.num, (y.den : Int))] = x - y := by
  show (0 + Rat.divInt x.num x.den) + Rat.divInt (-y.num) y.den = _
  rw [Rat.zero_add, Rat.num_divInt_den, ← Rat.neg_divInt, Rat.num_divInt_den, Rat.sub_eq_add_neg]
theorem den_pos (x : Rat) : (0 : Int) < x.den := by have := x.den_nz; omega
theorem sp_diff (hg : Φ 24 = some b__law_gcd) (hl : Φ 25 = some b__law_low) (h : Φ 26 = some b__law_sum) {k : Nat} {x y : Rat} (hx : Lg k x) (hy : Lg k y) (hk : k ≤ 500) :
    callF Φ Λ nm FF4 (n + 3) (.fn 26) [.lst [encQ x, .tup [.int (-y.num), .int y.den]]] S = .ok (encQ (x - y)) S := by
  rw [← qsum_sub]
  refine sp_law_sum (ps := [(x.num, (x.den : Int)), (-y.num, (y.den : Int))]) hg hl h (k := k) (fun p hp => ?_) (by show 2 * (k + 1) + k ≤ 1900; omega)
  have h1 := den_pos x
  have h2 := den_pos y
  simp only [List.mem_cons, List.mem_nil_iff, or_false] at hp
  rcases hp with rfl | rfl
  · exact ⟨h1, hx.1, by rw [Int.natAbs_natCast]; exact hx.2⟩
  · exact ⟨h2, by rw [Int.natAbs_neg]; exact hy.1, by rw [Int.natAbs_natCast]; exact hy.2⟩
theorem qsum_cross (a b c d : Rat) : qsum [(a.num * b.num, (a.den : Int) * b.den), (-c.num * d.num, (c.den : Int) * d.den)] = a * b - c * d := by
  show (0 + Rat.divInt (a.num * b.num) (a.den * b.den)) + Rat.divInt (-c.num * d.num) (c.den * d.den) = _
  rw [Rat.zero_add, ← Rat.divInt_mul_divInt, Rat.num_divInt_den, Rat.num_divInt_den, Int.neg_mul, ← Rat.neg_divInt, ← Rat.divInt_mul_divInt, Rat.num_divInt_den, Rat.num_divInt_den, Rat.sub_eq_add_neg]
theorem lg_crossQ {k : Nat} {o a b : Pnt} (ho : LgP k o) (ha : LgP k a) (hb : LgP k b) : Lg (8 * k + 5) (crossQ o a b) := by
  have := lg_sub (lg_mul (lg_sub ha.1 ho.1) (lg_sub hb.2 ho.2)) (lg_mul (lg_sub ha.2 ho.2) (lg_sub hb.1 ho.1))
  exact this.mono (by omega)
theorem sp_law_cross (hg : Φ 24 = some b__law_gcd) (hl : Φ 25 = some b__law_low) (hs : Φ 26 = some b__law_sum) (h : Φ 29 = some b__law_cross) {k : Nat} {o a b : Pnt} (ho : LgP k o) (ha : LgP k a) (hb : LgP k b) (hk : k ≤ 100) :
    callF Φ Λ nm FF4 (n + 4) (.fn 29) [encP o, encP a, encP b] S = .ok (encQ (crossQ o a b)) S := by
  have l1 := lg_sub ha.1 ho.1
  have l2 := lg_sub ha.2 ho.2
  have l3 := lg_sub hb.1 ho.1
  have l4 := lg_sub hb.2 ho.2
  refine call_ret h rfl ?_
  refine R_par2 (x := encQ (a.1 - o.1)) (y := encQ (a.2 - o.2)) (S1 := S) (S2 := S) (E_call (S1 := S) ?_ (sp_diff hg hl hs ha.1 ho.1 (by omega))) (E_call (S1 := S) ?_ (sp_diff hg hl hs ha.2 ho.2 (by omega))) ?_
  · repeat (first
    | with_reducible exact E_lit
    | (with_reducible apply E_var; rfl)
    | (with_reducible apply R_ret)
    | (with_reducible apply R_asg)
    | (with_reducible apply R_par2)
    | (with_reducible apply R_par3)
    | (with_reducible apply R_asg2)
    | (with_reducible apply R_expr)
    | (with_reducible apply R_own)
    | (with_reducible apply R_retOwn; rfl)
    | (with_reducible apply R_frz)
    | (with_reducible apply R_retNew)
    | (with_reducible exact R_raise)
    | (with_reducible exact Es_nil)
    | (with_reducible apply Es_cons)
    | (with_reducible apply E_tup)
    | (with_reducible apply E_lst)
    | (with_reducible apply E_bin)
    | (with_reducible apply E_neg)
    | (with_reducible apply E_not)
    | (with_reducible apply E_cmp)
    | (with_reducible apply E_chain)
    | (with_reducible apply E_sub)
    | (with_reducible apply E_slice)
    | (with_reducible apply E_rev)
    | (with_reducible apply E_isa)
    | (with_reducible apply E_bi)
    | (with_reducible apply E_call)
    | (with_reducible exact O_none)
    | (with_reducible apply O_some)
    | (with_reducible exact C_none)
    | (with_reducible apply C_some)
    | (with_reducible apply T_of)
    | (with_reducible apply I_over)
    | (with_reducible apply I_range1)
    | (with_reducible apply I_range2)
    | (with_reducible apply I_enum)
    | (with_reducible exact Ss_nil)
    | (with_reducible exact B_add)
    | (with_reducible exact B_sub)
    | (with_reducible apply B_mul; rotate_left)
    | (simp only [Sxs.app]) | rfl )
  · repeat (first
    | with_reducible exact E_lit
    | (with_reducible apply E_var; rfl)
    | (with_reducible apply R_ret)
    | (with_reducible apply R_asg)
    | (with_reducible apply R_par2)
    | (with_reducible apply R_par3)
    | (with_reducible apply R_asg2)
    | (with_reducible apply R_expr)
    | (with_reducible apply R_own)
    | (with_reducible apply R_retOwn; rfl)
    | (with_reducible apply R_frz)
    | (with_reducible apply R_retNew)
    | (with_reducible exact R_raise)
    | (with_reducible exact Es_nil)
    | (with_reducible apply Es_cons)
    | (with_reducible apply E_tup)
    | (with_reducible apply E_lst)
    | (with_reducible apply E_bin)
    | (with_reducible apply E_neg)
    | (with_reducible apply E_not)
    | (with_reducible apply E_cmp)
    | (with_reducible apply E_chain)
    | (with_reducible apply E_sub)
    | (with_reducible apply E_slice)
    | (with_reducible apply E_rev)
    | (with_reducible apply E_isa)
    | (with_reducible apply E_bi)
    | (with_reducible apply E_call)
    | (with_reducible exact O_none)
    | (with_reducible apply O_some)
    | (with_reducible exact C_none)
    | (with_reducible apply C_some)
    | (with_reducible apply T_of)
    | (with_reducible apply I_over)
    | (with_reducible apply I_range1)
    | (with_reducible apply I_range2)
    | (with_reducible apply I_enum)
    | (with_reducible exact Ss_nil)
    | (with_reducible exact B_add)
    | (with_reducible exact B_sub)
    | (with_reducible apply B_mul; rotate_left)
    | (simp only [Sxs.app]) | rfl )
  refine R_par2 (x := encQ (b.1 - o.1)) (y := encQ (b.2 - o.2)) (S1 := S) (S2 := S) (E_call (S1 := S) ?_ (sp_diff hg hl hs hb.1 ho.1 (by omega))) (E_call (S1 := S) ?_ (sp_diff hg hl hs hb.2 ho.2 (by omega))) ?_
  · repeat (first
    | with_reducible exact E_lit
    | (with_reducible apply E_var; rfl)
    | (with_reducible apply R_ret)
    | (with_reducible apply R_asg)
    | (with_reducible apply R_par2)
    | (with_reducible apply R_par3)
    | (with_reducible apply R_asg2)
    | (with_reducible apply R_expr)
    | (with_reducible apply R_own)
    | (with_reducible apply R_retOwn; rfl)
    | (with_reducible apply R_frz)
    | (with_reducible apply R_retNew)
    | (with_reducible exact R_raise)
    | (with_reducible exact Es_nil)
    | (with_reducible apply Es_cons)
    | (with_reducible apply E_tup)
    | (with_reducible apply E_lst)
    | (with_reducible apply E_bin)
    | (with_reducible apply E_neg)
    | (with_reducible apply E_not)
    | (with_reducible apply E_cmp)
    | (with_reducible apply E_chain)
    | (with_reducible apply E_sub)
    | (with_reducible apply E_slice)
    | (with_reducible apply E_rev)
    | (with_reducible apply E_isa)
    | (with_reducible apply E_bi)
    | (with_reducible apply E_call)
    | (with_reducible exact O_none)
    | (with_reducible apply O_some)
    | (with_reducible exact C_none)
    | (with_reducible apply C_some)
    | (with_reducible apply T_of)
    | (with_reducible apply I_over)
    | (with_reducible apply I_range1)
    | (with_reducible apply I_range2)
    | (with_reducible apply I_enum)
    | (with_reducible exact Ss_nil)
    | (with_reducible exact B_add)
    | (with_reducible exact B_sub)
    | (with_reducible apply B_mul; rotate_left)
    | (simp only [Sxs.app]) | rfl )
  · repeat (first
    | with_reducible exact E_lit
    | (with_reducible apply E_var; rfl)
    | (with_reducible apply R_ret)
    | (with_reducible apply R_asg)
    | (with_reducible apply R_par2)
    | (with_reducible apply R_par3)
    | (with_reducible apply R_asg2)
    | (with_reducible apply R_expr)
    | (with_reducible apply R_own)
    | (with_reducible apply R_retOwn; rfl)
    | (with_reducible apply R_frz)
    | (with_reducible apply R_retNew)
    | (with_reducible exact R_raise)
    | (with_reducible exact Es_nil)
    | (with_reducible apply Es_cons)
    | (with_reducible apply E_tup)
    | (with_reducible apply E_lst)
    | (with_reducible apply E_bin)
    | (with_reducible apply E_neg)
    | (with_reducible apply E_not)
    | (with_reducible apply E_cmp)
    | (with_reducible apply E_chain)
    | (with_reducible apply E_sub)
    | (with_reducible apply E_slice)
    | (with_reducible apply E_rev)
    | (with_reducible apply E_isa)
    | (with_reducible apply E_bi)
    | (with_reducible apply E_call)
    | (with_reducible exact O_none)
    | (with_reducible apply O_some)
    | (with_reducible exact C_none)
    | (with_reducible apply C_some)
    | (with_reducible apply T_of)
    | (with_reducible apply I_over)
    | (with_reducible apply I_range1)
    | (with_reducible apply I_range2)
    | (with_reducible apply I_enum)
    | (with_reducible exact Ss_nil)
    | (with_reducible exact B_add)
    | (with_reducible exact B_sub)
    | (with_reducible apply B_mul; rotate_left)
    | (simp only [Sxs.app]) | rfl )
  have hc := sp_law_sum (Λ := Λ) (nm := nm) (n := n) (S := S) (ps := [((a.1 - o.1).num * (b.2 - o.2).num, ((a.1 - o.1).den : Int) * (b.2 - o.2).den), (-(a.2 - o.2).num * (b.1 - o.1).num, ((a.2 - o.2).den : Int) * (b.1 - o.1).den)]) hg hl hs (k := (k + k + 1) + (k + k + 1)) (fun p hp => by
    simp only [List.mem_cons, List.mem_nil_iff, or_false] at hp
    rcases hp with rfl | rfl
    · exact ⟨Int.mul_pos (den_pos _) (den_pos _), mul_fig l1.1 l4.1, mul_fig (by rw [Int.natAbs_natCast]; exact l1.2) (by rw [Int.natAbs_natCast]; exact l4.2)⟩
    · exact ⟨Int.mul_pos (den_pos _) (den_pos _), mul_fig (by rw [Int.natAbs_neg]; exact l2.1) l3.1, mul_fig (by rw [Int.natAbs_natCast]; exact l2.2) (by rw [Int.natAbs_natCast]; exact l3.2)⟩) (by show 2 * _ + _ ≤ 1900; omega)
  rw [qsum_cross] at hc
  refine R_ret (E_call (ds := [.lst [encF ((a.1 - o.1).num * (b.2 - o.2).num, ((a.1 - o.1).den : Int) * (b.2 - o.2).den), encF (-(a.2 - o.2).num * (b.1 - o.1).num, ((a.2 - o.2).den : Int) * (b.1 - o.1).den)]]) (S1 := S) ?_ hc)
  repeat (first
    | with_reducible exact E_lit
    | (with_reducible apply E_var; rfl)
    | (with_reducible apply R_ret)
    | (with_reducible apply R_asg)
    | (with_reducible apply R_par2)
    | (with_reducible apply R_par3)
    | (with_reducible apply R_asg2)
    | (with_reducible apply R_expr)
    | (with_reducible apply R_own)
    | (with_reducible apply R_retOwn; rfl)
    | (with_reducible apply R_frz)
    | (with_reducible apply R_retNew)
    | (with_reducible exact R_raise)
    | (with_reducible exact Es_nil)
    | (with_reducible apply Es_cons)
    | (with_reducible apply E_tup)
    | (with_reducible apply E_lst)
    | (with_reducible apply E_bin)
    | (with_reducible apply E_neg)
    | (with_reducible apply E_not)
    | (with_reducible apply E_cmp)
    | (with_reducible apply E_chain)
    | (with_reducible apply E_sub)
    | (with_reducible apply E_slice)
    | (with_reducible apply E_rev)
    | (with_reducible apply E_isa)
    | (with_reducible apply E_bi)
    | (with_reducible apply E_call)
    | (with_reducible exact O_none)
    | (with_reducible apply O_some)
    | (with_reducible exact C_none)
    | (with_reducible apply C_some)
    | (with_reducible apply T_of)
    | (with_reducible apply I_over)
    | (with_reducible apply I_range1)
    | (with_reducible apply I_range2)
    | (with_reducible apply I_enum)
    | (with_reducible exact Ss_nil)
    | (with_reducible exact B_add)
    | (with_reducible exact B_sub)
    | (with_reducible apply B_mul; rotate_left)
    | (simp only [Sxs.app]) | rfl )
  · exact mulOk_fig l1.1 l4.1 (by omega) (by omega)
  · exact mulOk_fig (by rw [Int.natAbs_natCast]; exact l1.2) (by rw [Int.natAbs_natCast]; exact l4.2) (by omega) (by omega)
  · exact mulOk_fig (by rw [Int.natAbs_neg]; exact l2.1) l3.1 (by omega) (by omega)
  · exact mulOk_fig (by rw [Int.natAbs_natCast]; exact l2.2) (by rw [Int.natAbs_natCast]; exact l3.2) (by omega) (by omega)
def absQ (q : Rat) : Rat := if q < 0 then -q else q
theorem absQ_divInt (q : Rat) : Rat.divInt (if q.num < 0 then -q.num else q.num) (2 * (q.den : Int)) = absQ q / 2 := by
  have hd := den_pos q
  have e : ∀ z : Int, Rat.divInt z (2 * (q.den : Int)) = Rat.divInt z q.den / 2 := fun z => by
    rw [Rat.div_def]
    have : (2 : Rat)⁻¹ = Rat.divInt 1 2 := by rw [Rat.inv_def]; rfl
    rw [this, Rat.divInt_mul_divInt, Int.mul_one, Int.mul_comm]
  rw [e]
  unfold absQ
  have hn : q < 0 ↔ q.num < 0 := by
    rw [Rat.lt_iff]; simp
  by_cases h : q.num < 0
  · rw [if_pos h, if_pos (hn.mpr h), ← Rat.neg_divInt, Rat.num_divInt_den]
  · rw [if_neg h, if_neg (fun z => h (hn.mp z)), Rat.num_divInt_den]
def sizeQ (a b c : Pnt) : Rat := absQ (crossQ a b c) / 2
abbrev encT (t : Pnt × Pnt × Pnt) : D := .tup [encP t.1, encP t.2.1, encP t.2.2]
theorem sp_law_size (hg : Φ 24 = some b__law_gcd) (hl : Φ 25 = some b__law_low) (hs : Φ 26 = some b__law_sum) (hc : Φ 29 = some b__law_cross) (h : Φ 30 = some b__law_size) {k : Nat} {t : Pnt × Pnt × Pnt} (h1 : LgP k t.1) (h2 : LgP k t.2.1) (h3 : LgP k t.2.2) (hk : k ≤ 100) :
    callF Φ Λ nm FF4 (n + 5) (.fn 30) [encT t] S = .ok (encQ (sizeQ t.1 t.2.1 t.2.2)) S := by
  have lc := lg_crossQ h1 h2 h3
  have hd := den_pos (crossQ t.1 t.2.1 t.2.2)
  have ld : ((crossQ t.1 t.2.1 t.2.2).den : Int).natAbs < 10 ^ (8 * k + 5) := by rw [Int.natAbs_natCast]; exact lc.2
  refine call_ret h rfl (R_asg (d := encQ (crossQ t.1 t.2.1 t.2.2)) (S1 := S) (E_call (ds := [encP t.1, encP t.2.1, encP t.2.2]) (S1 := S) ?_ (sp_law_cross hg hl hs hc h1 h2 h3 hk)) rfl (R_ret (E_call (ds := [.int (if (crossQ t.1 t.2.1 t.2.2).num < 0 then -(crossQ t.1 t.2.1 t.2.2).num else (crossQ t.1 t.2.1 t.2.2).num), .int (2 * ((crossQ t.1 t.2.1 t.2.2).den : Int))]) (S1 := S) ?_ ?_)))
  · repeat (first
    | with_reducible exact E_lit
    | (with_reducible apply E_var; rfl)
    | (with_reducible apply R_ret)
    | (with_reducible apply R_asg)
    | (with_reducible apply R_par2)
    | (with_reducible apply R_par3)
    | (with_reducible apply R_asg2)
    | (with_reducible apply R_expr)
    | (with_reducible apply R_own)
    | (with_reducible apply R_retOwn; rfl)
    | (with_reducible apply R_frz)
    | (with_reducible apply R_retNew)
    | (with_reducible exact R_raise)
    | (with_reducible exact Es_nil)
    | (with_reducible apply Es_cons)
    | (with_reducible apply E_tup)
    | (with_reducible apply E_lst)
    | (with_reducible apply E_bin)
    | (with_reducible apply E_neg)
    | (with_reducible apply E_not)
    | (with_reducible apply E_cmp)
    | (with_reducible apply E_chain)
    | (with_reducible apply E_sub)
    | (with_reducible apply E_slice)
    | (with_reducible apply E_rev)
    | (with_reducible apply E_isa)
    | (with_reducible apply E_bi)
    | (with_reducible apply E_call)
    | (with_reducible exact O_none)
    | (with_reducible apply O_some)
    | (with_reducible exact C_none)
    | (with_reducible apply C_some)
    | (with_reducible apply T_of)
    | (with_reducible apply I_over)
    | (with_reducible apply I_range1)
    | (with_reducible apply I_range2)
    | (with_reducible apply I_enum)
    | (with_reducible exact Ss_nil)
    | (with_reducible exact B_add)
    | (with_reducible exact B_sub)
    | (with_reducible apply B_mul; rotate_left)
    | (simp only [Sxs.app]) | rfl )
  · repeat (first
    | with_reducible exact E_lit
    | (with_reducible apply E_var; rfl)
    | (with_reducible apply R_ret)
    | (with_reducible apply R_asg)
    | (with_reducible apply R_par2)
    | (with_reducible apply R_par3)
    | (with_reducible apply R_asg2)
    | (with_reducible apply R_expr)
    | (with_reducible apply R_own)
    | (with_reducible apply R_retOwn; rfl)
    | (with_reducible apply R_frz)
    | (with_reducible apply R_retNew)
    | (with_reducible exact R_raise)
    | (with_reducible exact Es_nil)
    | (with_reducible apply Es_cons)
    | (with_reducible apply E_tup)
    | (with_reducible apply E_lst)
    | (with_reducible apply E_bin)
    | (with_reducible apply E_neg)
    | (with_reducible apply E_not)
    | (with_reducible apply E_cmp)
    | (with_reducible apply E_chain)
    | (with_reducible apply E_sub)
    | (with_reducible apply E_slice)
    | (with_reducible apply E_rev)
    | (with_reducible apply E_isa)
    | (with_reducible apply E_bi)
    | (with_reducible apply E_call)
    | (with_reducible exact O_none)
    | (with_reducible apply O_some)
    | (with_reducible exact C_none)
    | (with_reducible apply C_some)
    | (with_reducible apply T_of)
    | (with_reducible apply I_over)
    | (with_reducible apply I_range1)
    | (with_reducible apply I_range2)
    | (with_reducible apply I_enum)
    | (with_reducible exact Ss_nil)
    | (with_reducible exact B_add)
    | (with_reducible exact B_sub)
    | (with_reducible apply B_mul; rotate_left)
    | (simp only [Sxs.app]) | rfl )
    exact mulOk_fig (j := 1) (by decide) ld (by decide) (by omega)
  · unfold sizeQ
    rw [← absQ_divInt]
    exact sp_law_low hg hl (by omega) (mul_fig (j := 1) (by decide) ld) (by omega)
end
end Iv
/-! MV: how often a prime stands in a number; hues. -/
namespace Iv
open PySem
/-- how often p divides n -/
def mu (p n : Nat) : Nat := if h : 1 < p ∧ 0 < n ∧ p ∣ n then mu p (n / p) + 1 else 0
termination_by n
decreasing_by exact Nat.div_lt_self h.2.1 h.1
structure PrimeP (p : Nat) : Prop where
  two : 2 ≤ p
  dvd : ∀ a b : Nat, p ∣ a * b → p ∣ a ∨ p ∣ b
theorem prime_of {p : Nat} (h2 : 2 ≤ p) (h : ((List.range (p + 1)).all fun d => !(decide (p % d = 0)) || decide (d = 1) || decide (d = p)) = true) : PrimeP p := by
  refine ⟨h2, fun a b hab => ?_⟩
  have hg : Nat.gcd p a ∣ p := Nat.gcd_dvd_left p a
  have hle : Nat.gcd p a ≤ p := Nat.le_of_dvd (by omega) hg
  have := List.all_eq_true.mp h (Nat.gcd p a) (List.mem_range.mpr (by omega))
  have hm : p % Nat.gcd p a = 0 := Nat.mod_eq_zero_of_dvd hg
  rw [decide_eq_true hm] at this
  simp only [Bool.not_true, Bool.false_or, Bool.or_eq_true, decide_eq_true_eq] at this
  rcases this with e | e
  · exact .inr (Nat.Coprime.dvd_of_dvd_mul_left (show Nat.Coprime p a from e) hab)
  · exact .inl (by rw [← e]; exact Nat.gcd_dvd_right p a)
theorem mu_zero (p : Nat) {n : Nat} (h : ¬ p ∣ n) : mu p n = 0 := by
  unfold mu
  rw [dif_neg (fun z => h z.2.2)]
theorem mu_step {p n : Nat} (hp : 2 ≤ p) (hn : 0 < n) : mu p (p * n) = mu p n + 1 := by
  conv => lhs; unfold mu
  rw [dif_pos ⟨by omega, Nat.mul_pos (by omega) hn, Nat.dvd_mul_right p n⟩, Nat.mul_div_cancel_left n (by omega)]
theorem mu_form {p : Nat} (hp : 2 ≤ p) : ∀ {n : Nat}, 0 < n → ∃ m, n = p ^ mu p n * m ∧ ¬ p ∣ m := by
  intro n
  induction n using Nat.strongRecOn with
  | ind n ih =>
    intro hn
    by_cases h : p ∣ n
    · obtain ⟨k, rfl⟩ := h
      have hk : 0 < k := Nat.pos_of_ne_zero fun z => by rw [z] at hn; simp at hn
      obtain ⟨m, e, hm⟩ := ih k (by have := Nat.mul_le_mul_right k hp; omega) hk
      refine ⟨m, ?_, hm⟩
      rw [mu_step hp hk, Nat.pow_succ, Nat.mul_comm _ p, Nat.mul_assoc, ← e]
    · exact ⟨n, by rw [mu_zero p h]; simp, h⟩
theorem mu_pow {p : Nat} (hp : 2 ≤ p) {m : Nat} (hm : ¬ p ∣ m) : ∀ k, mu p (p ^ k * m) = k
  | 0 => by simpa using mu_zero p hm
  | k + 1 => by
    have h0 : 0 < m := Nat.pos_of_ne_zero fun z => hm (by rw [z]; exact Nat.dvd_zero p)
    rw [Nat.pow_succ, Nat.mul_comm _ p, Nat.mul_assoc, mu_step hp (Nat.mul_pos (Nat.pow_pos (by omega)) h0), mu_pow hp hm k]
theorem mu_mul {p : Nat} (P : PrimeP p) {a b : Nat} (ha : 0 < a) (hb : 0 < b) : mu p (a * b) = mu p a + mu p b := by
  obtain ⟨x, ea, hx⟩ := mu_form P.two ha
  obtain ⟨y, eb, hy⟩ := mu_form P.two hb
  have : a * b = p ^ (mu p a + mu p b) * (x * y) := by
    conv => lhs; rw [ea, eb]
    rw [Nat.pow_add, Nat.mul_mul_mul_comm]
  rw [this, mu_pow P.two fun z => (P.dvd x y z).elim hx hy]
theorem mu_one {p : Nat} (hp : 2 ≤ p) : mu p 1 = 0 := mu_zero p fun z => by have := Nat.le_of_dvd (by decide) z; omega
/-- .. of integers that are not 0 -/
abbrev mI (p : Nat) (z : Int) : Nat := mu p z.natAbs
theorem mI_mul {p : Nat} (P : PrimeP p) {a b : Int} (ha : a ≠ 0) (hb : b ≠ 0) : mI p (a * b) = mI p a + mI p b := by
  unfold mI
  rw [Int.natAbs_mul, mu_mul P (by omega) (by omega)]
theorem mI_form {p : Nat} (hp : 2 ≤ p) {a : Int} (ha : a ≠ 0) : ∃ m : Int, a = (p : Int) ^ mI p a * m ∧ ¬ (p : Int) ∣ m := by
  obtain ⟨m, e, hm⟩ := mu_form hp (n := a.natAbs) (by omega)
  have hz : ((p ^ mI p a : Nat) : Int) = (p : Int) ^ mI p a := by rw [Int.natCast_pow]
  rcases Int.natAbs_eq a with h | h
  · refine ⟨m, ?_, fun z => hm (Int.natCast_dvd_natCast.mp z)⟩
    rw [← hz, ← Int.natCast_mul]
    unfold mI
    rw [← e]; exact h
  · refine ⟨-m, ?_, fun z => hm (Int.natCast_dvd_natCast.mp (Int.dvd_neg.mp z))⟩
    rw [Int.mul_neg, ← hz, ← Int.natCast_mul]
    unfold mI
    rw [← e]; exact h
theorem mI_pow {p : Nat} (hp : 2 ≤ p) {m : Int} (hm : ¬ (p : Int) ∣ m) (k : Nat) : mI p ((p : Int) ^ k * m) = k := by
  unfold mI
  rw [Int.natAbs_mul, Int.natAbs_pow, Int.natAbs_natCast]
  exact mu_pow hp (fun z => hm (Int.ofNat_dvd_left.mpr z)) k
theorem mI_add {p : Nat} (hp : 2 ≤ p) {a b : Int} (ha : a ≠ 0) (hb : b ≠ 0) (h : mI p a < mI p b) : a + b ≠ 0 ∧ mI p (a + b) = mI p a := by
  obtain ⟨x, ea, hx⟩ := mI_form hp ha
  obtain ⟨y, eb, hy⟩ := mI_form hp hb
  obtain ⟨k, hk⟩ : ∃ k, mI p b = mI p a + (k + 1) := ⟨mI p b - mI p a - 1, by omega⟩
  have e : a + b = (p : Int) ^ mI p a * (x + p * ((p : Int) ^ k * y)) := by
    rw [hk, Int.pow_add, Int.pow_succ] at eb
    conv => lhs; rw [ea, eb]
    grind
  have hnd : ¬ (p : Int) ∣ x + p * ((p : Int) ^ k * y) := fun z => hx ((Int.dvd_add_left (Int.dvd_mul_right _ _)).mp z)
  refine ⟨fun z => ?_, by rw [e, mI_pow hp hnd]⟩
  have h1 : (p : Int) ^ mI p a ≠ 0 := by
    have : (0 : Int) < (p : Int) ^ mI p a := Int.pow_pos (by omega)
    omega
  rw [e] at z
  rcases Int.mul_eq_zero.mp z with z | z
  · exact h1 z
  · exact hnd (by rw [z]; exact Int.dvd_zero _)
theorem mI_ge {p : Nat} (hp : 2 ≤ p) {a b : Int} (ha : a ≠ 0) (hb : b ≠ 0) (hab : a + b ≠ 0) : min (mI p a) (mI p b) ≤ mI p (a + b) := by
  rcases Nat.lt_trichotomy (mI p a) (mI p b) with h | h | h
  · have := (mI_add hp ha hb h).2
    omega
  · obtain ⟨x, ea, hx⟩ := mI_form hp ha
    obtain ⟨y, eb, hy⟩ := mI_form hp hb
    rw [← h] at eb
    have e : a + b = (p : Int) ^ mI p a * (x + y) := by
      conv => lhs; rw [ea, eb]
      rw [Int.mul_add]
    have hxy : x + y ≠ 0 := fun z => hab (by rw [e, z, Int.mul_zero])
    obtain ⟨z, ez, hz⟩ := mI_form hp hxy
    have : mI p (a + b) = mI p a + mI p (x + y) := by
      have e2 : a + b = (p : Int) ^ (mI p a + mI p (x + y)) * z := by
        rw [e]
        conv => lhs; rw [ez]
        rw [Int.pow_add, Int.mul_assoc]
      conv => lhs; rw [e2]
      rw [mI_pow hp hz]
    omega
  · have := (mI_add hp hb ha h).2
    rw [Int.add_comm] at this
    omega
/-- .. of fractions that are not 0 -/
def vQ (p : Nat) (q : Rat) : Int := (mI p q.num : Int) - mu p q.den
theorem vQ_divInt {p : Nat} (P : PrimeP p) {n d : Int} (hn : n ≠ 0) (hd : d ≠ 0) : Rat.divInt n d ≠ 0 ∧ vQ p (Rat.divInt n d) = (mI p n : Int) - mI p d := by
  have hq : (Rat.divInt n d).num * d = n * (Rat.divInt n d).den := by
    have := Rat.num_divInt_den (Rat.divInt n d)
    have dn := (Rat.divInt n d).den_nz
    exact (Rat.divInt_eq_divInt_iff (by omega) hd).mp this
  have dn := (Rat.divInt n d).den_nz
  have hne : (Rat.divInt n d).num ≠ 0 := fun z => by
    rw [z, Int.zero_mul] at hq
    rcases Int.mul_eq_zero.mp hq.symm with z | z
    · exact hn z
    · omega
  refine ⟨fun z => hne (by rw [z]; rfl), ?_⟩
  have h1 := mI_mul P hne hd
  have h2 := mI_mul P hn (show ((Rat.divInt n d).den : Int) ≠ 0 by omega)
  rw [hq, h2] at h1
  unfold vQ
  have h3 : mI p ((Rat.divInt n d).den : Int) = mu p (Rat.divInt n d).den := by unfold mI; rw [Int.natAbs_natCast]
  omega
theorem num_ne {q : Rat} (h : q ≠ 0) : q.num ≠ 0 := fun z => h (Rat.num_eq_zero.mp z)
theorem vQ_mul {p : Nat} (P : PrimeP p) {x y : Rat} (hx : x ≠ 0) (hy : y ≠ 0) : x * y ≠ 0 ∧ vQ p (x * y) = vQ p x + vQ p y := by
  have dx := x.den_nz
  have dy := y.den_nz
  have e : x * y = Rat.divInt (x.num * y.num) (x.den * y.den) := by
    conv => lhs; rw [← Rat.num_divInt_den x, ← Rat.num_divInt_den y]
    rw [Rat.divInt_mul_divInt]
  have k := vQ_divInt P (Int.mul_ne_zero (num_ne hx) (num_ne hy)) (Int.mul_ne_zero (show (x.den : Int) ≠ 0 by omega) (show (y.den : Int) ≠ 0 by omega))
  rw [e]
  refine ⟨k.1, ?_⟩
  rw [k.2, mI_mul P (num_ne hx) (num_ne hy), mI_mul P (by omega) (by omega)]
  unfold vQ mI
  rw [Int.natAbs_natCast, Int.natAbs_natCast]
  omega
theorem vQ_neg {p : Nat} {x : Rat} : vQ p (-x) = vQ p x := by
  unfold vQ mI
  rw [Rat.neg_num, Rat.neg_den, Int.natAbs_neg]
theorem vQ_add {p : Nat} (P : PrimeP p) {x y : Rat} (hx : x ≠ 0) (hy : y ≠ 0) (h : vQ p x < vQ p y) : x + y ≠ 0 ∧ vQ p (x + y) = vQ p x := by
  have dx := x.den_nz
  have dy := y.den_nz
  have e : x + y = Rat.divInt (x.num * y.den + y.num * x.den) (x.den * y.den) := by
    conv => lhs; rw [← Rat.num_divInt_den x, ← Rat.num_divInt_den y]
    rw [Rat.divInt_add_divInt _ _ (by omega) (by omega)]
  have m1 := mI_mul P (num_ne hx) (show (y.den : Int) ≠ 0 by omega)
  have m2 := mI_mul P (num_ne hy) (show (x.den : Int) ≠ 0 by omega)
  have c1 : mI p (y.den : Int) = mu p y.den := by unfold mI; rw [Int.natAbs_natCast]
  have c2 : mI p (x.den : Int) = mu p x.den := by unfold mI; rw [Int.natAbs_natCast]
  unfold vQ at h
  have k := mI_add P.two (Int.mul_ne_zero (num_ne hx) (show (y.den : Int) ≠ 0 by omega)) (Int.mul_ne_zero (num_ne hy) (show (x.den : Int) ≠ 0 by omega)) (by omega)
  have q := vQ_divInt P k.1 (Int.mul_ne_zero (show (x.den : Int) ≠ 0 by omega) (show (y.den : Int) ≠ 0 by omega))
  rw [e]
  refine ⟨q.1, ?_⟩
  rw [q.2, k.2, mI_mul P (a := (x.den : Int)) (b := (y.den : Int)) (by omega) (by omega)]
  unfold vQ
  omega
theorem vQ_ge {p : Nat} (P : PrimeP p) {x y : Rat} (hx : x ≠ 0) (hy : y ≠ 0) (hxy : x + y ≠ 0) {k : Int} (h1 : k ≤ vQ p x) (h2 : k ≤ vQ p y) : k ≤ vQ p (x + y) := by
  have dx := x.den_nz
  have dy := y.den_nz
  have e : x + y = Rat.divInt (x.num * y.den + y.num * x.den) (x.den * y.den) := by
    conv => lhs; rw [← Rat.num_divInt_den x, ← Rat.num_divInt_den y]
    rw [Rat.divInt_add_divInt _ _ (by omega) (by omega)]
  have m1 := mI_mul P (num_ne hx) (show (y.den : Int) ≠ 0 by omega)
  have m2 := mI_mul P (num_ne hy) (show (x.den : Int) ≠ 0 by omega)
  have c1 : mI p (y.den : Int) = mu p y.den := by unfold mI; rw [Int.natAbs_natCast]
  have c2 : mI p (x.den : Int) = mu p x.den := by unfold mI; rw [Int.natAbs_natCast]
  unfold vQ at h1 h2
  have hs : x.num * y.den + y.num * x.den ≠ 0 := fun z => hxy (by rw [e, z]; simp)
  have k' := mI_ge P.two (Int.mul_ne_zero (num_ne hx) (show (y.den : Int) ≠ 0 by omega)) (Int.mul_ne_zero (num_ne hy) (show (x.den : Int) ≠ 0 by omega)) hs
  have q := vQ_divInt P hs (Int.mul_ne_zero (show (x.den : Int) ≠ 0 by omega) (show (y.den : Int) ≠ 0 by omega))
  rw [e, q.2, mI_mul P (a := (x.den : Int)) (b := (y.den : Int)) (by omega) (by omega)]
  omega
/-- at least as often as k, 0 too -/
def Ge (p : Nat) (k : Int) (q : Rat) : Prop := q = 0 ∨ k ≤ vQ p q
theorem Ge.neg {p : Nat} {k : Int} {q : Rat} (h : Ge p k q) : Ge p k (-q) := h.elim (fun z => .inl (by rw [z]; rfl)) fun z => .inr (by rw [vQ_neg]; exact z)
theorem Ge.add {p : Nat} (P : PrimeP p) {k : Int} {x y : Rat} (hx : Ge p k x) (hy : Ge p k y) : Ge p k (x + y) := by
  rcases hx with hx | hx
  · rw [hx, Rat.zero_add]; exact hy
  rcases hy with hy | hy
  · rw [hy, Rat.add_zero]; exact .inr hx
  by_cases x0 : x = 0
  · rw [x0, Rat.zero_add]; exact .inr hy
  by_cases y0 : y = 0
  · rw [y0, Rat.add_zero]; exact .inr hx
  by_cases h0 : x + y = 0
  · exact .inl h0
  · exact .inr (vQ_ge P x0 y0 h0 hx hy)
theorem Ge.sub {p : Nat} (P : PrimeP p) {k : Int} {x y : Rat} (hx : Ge p k x) (hy : Ge p k y) : Ge p k (x - y) := by rw [Rat.sub_eq_add_neg]; exact hx.add P hy.neg
theorem Ge.mono {p : Nat} {j k : Int} {q : Rat} (h : Ge p k q) (hj : j ≤ k) : Ge p j q := h.elim .inl fun z => .inr (by omega)
theorem Ge.mul {p : Nat} (P : PrimeP p) {j k : Int} {x y : Rat} (hx : Ge p j x) (hy : Ge p k y) : Ge p (j + k) (x * y) := by
  rcases hx with hx | hx
  · exact .inl (by rw [hx, Rat.zero_mul])
  rcases hy with hy | hy
  · exact .inl (by rw [hy, Rat.mul_zero])
  by_cases x0 : x = 0
  · exact .inl (by rw [x0, Rat.zero_mul])
  by_cases y0 : y = 0
  · exact .inl (by rw [y0, Rat.mul_zero])
  · exact .inr (by rw [(vQ_mul P x0 y0).2]; omega)
/-- what stands more often does not count -/
theorem v_less {p : Nat} (P : PrimeP p) {x y : Rat} (hx : x ≠ 0) (hy : Ge p (vQ p x + 1) y) : x - y ≠ 0 ∧ vQ p (x - y) = vQ p x := by
  rw [Rat.sub_eq_add_neg]
  rcases hy with hy | hy
  · rw [hy, Rat.neg_zero, Rat.add_zero]; exact ⟨hx, rfl⟩
  · by_cases y0 : y = 0
    · rw [y0, Rat.neg_zero, Rat.add_zero]; exact ⟨hx, rfl⟩
    · exact vQ_add P hx (fun z => y0 (by have := congrArg (fun q : Rat => -q) z; simpa using this)) (by rw [vQ_neg]; omega)
/-! ### hues -/
inductive Hue where | a | b | c
  deriving DecidableEq
def isB (p : Nat) (q : Pnt) : Bool := decide (q.1 ≠ 0) && (decide (vQ p q.1 ≤ 0) && (decide (q.2 = 0) || decide (vQ p q.1 ≤ vQ p q.2)))
def isC (p : Nat) (q : Pnt) : Bool := decide (q.2 ≠ 0) && decide (vQ p q.2 ≤ 0)
def hueQ (p : Nat) (q : Pnt) : Hue := if isB p q then .b else if isC p q then .c else .a
theorem hue_a {p : Nat} {q : Pnt} (h : hueQ p q = .a) : Ge p 1 q.1 ∧ Ge p 1 q.2 := by
  unfold hueQ at h
  split at h
  · cases h
  · rename_i hb
    split at h
    · cases h
    · rename_i hc
      simp only [isB, isC, Bool.and_eq_true, Bool.or_eq_true, decide_eq_true_eq] at hb hc
      have h2 : Ge p 1 q.2 := by
        by_cases y0 : q.2 = 0
        · exact .inl y0
        · exact .inr (by
            rcases Int.lt_or_le 0 (vQ p q.2) with z | z
            · omega
            · exact absurd ⟨y0, z⟩ hc)
      refine ⟨?_, h2⟩
      by_cases x0 : q.1 = 0
      · exact .inl x0
      · refine .inr ?_
        rcases Int.lt_or_le 0 (vQ p q.1) with z | z
        · omega
        · refine absurd ⟨x0, z, ?_⟩ hb
          rcases h2 with h2 | h2
          · exact .inl h2
          · exact .inr (by omega)
theorem hue_b {p : Nat} {q : Pnt} (h : hueQ p q = .b) : q.1 ≠ 0 ∧ vQ p q.1 ≤ 0 ∧ Ge p (vQ p q.1) q.2 := by
  unfold hueQ at h
  split at h
  · rename_i hb
    simp only [isB, Bool.and_eq_true, Bool.or_eq_true, decide_eq_true_eq] at hb
    exact ⟨hb.1, hb.2.1, hb.2.2⟩
  · split at h <;> cases h
theorem hue_c {p : Nat} {q : Pnt} (h : hueQ p q = .c) : q.2 ≠ 0 ∧ vQ p q.2 ≤ 0 ∧ Ge p (vQ p q.2 + 1) q.1 := by
  unfold hueQ at h
  split at h
  · cases h
  · rename_i hb
    split at h
    · rename_i hc
      simp only [isB, isC, Bool.and_eq_true, Bool.or_eq_true, decide_eq_true_eq] at hb hc
      refine ⟨hc.1, hc.2, ?_⟩
      by_cases x0 : q.1 = 0
      · exact .inl x0
      · refine .inr ?_
        rcases Int.lt_or_le (vQ p q.2) (vQ p q.1) with z | z
        · omega
        · exact absurd ⟨x0, by omega, .inr z⟩ hb
    · cases h
/-- three points of all hues: no line holds them, and what they span has the prime not above -/
theorem full_cross {p : Nat} (P : PrimeP p) {A B C : Pnt} (ha : hueQ p A = .a) (hb : hueQ p B = .b) (hc : hueQ p C = .c) : crossQ A B C ≠ 0 ∧ vQ p (crossQ A B C) ≤ 0 := by
  obtain ⟨a1, a2⟩ := hue_a ha
  obtain ⟨b1, b2, b3⟩ := hue_b hb
  obtain ⟨c1, c2, c3⟩ := hue_c hc
  have x1 := v_less P b1 (a1.mono (by omega : vQ p B.1 + 1 ≤ 1))
  have y1 := v_less P c1 (a2.mono (by omega : vQ p C.2 + 1 ≤ 1))
  have x2 : Ge p (vQ p B.1) (B.2 - A.2) := b3.sub P (a2.mono (by omega))
  have y2 : Ge p (vQ p C.2 + 1) (C.1 - A.1) := c3.sub P (a1.mono (by omega))
  have m := vQ_mul P x1.1 y1.1
  rw [x1.2, y1.2] at m
  have k := v_less P m.1 (show Ge p (vQ p ((B.1 - A.1) * (C.2 - A.2)) + 1) ((B.2 - A.2) * (C.1 - A.1)) from by
    have := x2.mul P y2
    rw [m.2]
    exact this.mono (by omega))
  unfold crossQ
  exact ⟨k.1, by rw [k.2, m.2]; omega⟩
end Iv
/-! MG: triangles, cut in two. -/
namespace Iv
open PySem
abbrev Trg := Pnt × Pnt × Pnt
def ar (t : Trg) : Rat := sizeQ t.1 t.2.1 t.2.2
def crT (t : Trg) : Rat := crossQ t.1 t.2.1 t.2.2
/-- the same three points -/
def Perm3 (t : Trg) (a b c : Pnt) : Prop := t = (a, b, c) ∨ t = (a, c, b) ∨ t = (b, a, c) ∨ t = (b, c, a) ∨ t = (c, a, b) ∨ t = (c, b, a)
theorem absQ_neg (q : Rat) : absQ (-q) = absQ q := by
  unfold absQ
  split <;> split <;> grind
theorem cross_acb (a b c : Pnt) : crossQ a c b = -crossQ a b c := by unfold crossQ; grind
theorem cross_bac (a b c : Pnt) : crossQ b a c = -crossQ a b c := by unfold crossQ; grind
theorem cross_bca (a b c : Pnt) : crossQ b c a = crossQ a b c := by unfold crossQ; grind
theorem cross_cab (a b c : Pnt) : crossQ c a b = crossQ a b c := by unfold crossQ; grind
theorem cross_cba (a b c : Pnt) : crossQ c b a = -crossQ a b c := by unfold crossQ; grind
theorem Perm3.cr {t : Trg} {a b c : Pnt} (h : Perm3 t a b c) : crT t = crossQ a b c ∨ crT t = -crossQ a b c := by
  rcases h with rfl | rfl | rfl | rfl | rfl | rfl
  · exact .inl rfl
  · exact .inr (cross_acb a b c)
  · exact .inr (cross_bac a b c)
  · exact .inl (cross_bca a b c)
  · exact .inl (cross_cab a b c)
  · exact .inr (cross_cba a b c)
theorem Perm3.ar {t : Trg} {a b c : Pnt} (h : Perm3 t a b c) : ar t = sizeQ a b c := by
  show absQ (crT t) / 2 = absQ (crossQ a b c) / 2
  rcases h.cr with e | e
  · rw [e]
  · rw [e, absQ_neg]
/-- all three hues -/
def Full3 (p : Nat) (a b c : Pnt) : Prop := hueQ p a ≠ hueQ p b ∧ hueQ p a ≠ hueQ p c ∧ hueQ p b ≠ hueQ p c
def Full (p : Nat) (t : Trg) : Prop := Full3 p t.1 t.2.1 t.2.2
theorem Perm3.full {p : Nat} {t : Trg} {a b c : Pnt} (h : Perm3 t a b c) : Full p t ↔ Full3 p a b c := by
  unfold Full Full3
  rcases h with rfl | rfl | rfl | rfl | rfl | rfl <;> grind
theorem full3_cross {p : Nat} (P : PrimeP p) {a b c : Pnt} (h : Full3 p a b c) : crossQ a b c ≠ 0 ∧ vQ p (crossQ a b c) ≤ 0 := by
  have neg : ∀ q : Rat, (q ≠ 0 ∧ vQ p q ≤ 0) → (-q ≠ 0 ∧ vQ p (-q) ≤ 0) := fun q ⟨h1, h2⟩ => ⟨fun z => h1 (by have := congrArg (fun q : Rat => -q) z; simpa using this), by rw [vQ_neg]; exact h2⟩
  obtain ⟨h1, h2, h3⟩ := h
  cases ha : hueQ p a <;> cases hb : hueQ p b <;> cases hc : hueQ p c <;> simp only [ha, hb, hc, ne_eq, not_true_eq_false, reduceCtorEq, not_false_eq_true] at h1 h2 h3
  · exact full_cross P ha hb hc
  · have k := neg _ (full_cross P ha hc hb); rw [cross_acb, Rat.neg_neg] at k; exact k
  · have k := neg _ (full_cross P hb ha hc); rw [cross_bac, Rat.neg_neg] at k; exact k
  · have k := full_cross P hc ha hb; rw [cross_cab] at k; exact k
  · have k := full_cross P hb hc ha; rw [cross_bca] at k; exact k
  · have k := neg _ (full_cross P hc hb ha); rw [cross_cba, Rat.neg_neg] at k; exact k
/-- the point that is the part r of the way from a to b -/
def mid (a b : Pnt) (r : Rat) : Pnt := (a.1 + (b.1 - a.1) * r, a.2 + (b.2 - a.2) * r)
theorem cross_mid1 (c a b : Pnt) (r : Rat) : crossQ c a (mid a b r) = r * crossQ c a b := by unfold crossQ mid; grind
theorem cross_mid2 (c a b : Pnt) (r : Rat) : crossQ c b (mid a b r) = -((1 - r) * crossQ c a b) := by unfold crossQ mid; grind
theorem cross_line (a b : Pnt) (r : Rat) : crossQ a b (mid a b r) = 0 := by unfold crossQ mid; grind
theorem absQ_mul {r q : Rat} (h : 0 < r) : absQ (r * q) = r * absQ q := by
  unfold absQ
  by_cases hq : q < 0
  · have h2 : r * q < 0 := by
      have := Rat.mul_pos h (show (0 : Rat) < -q by grind)
      grind
    rw [if_pos hq, if_pos h2]; grind
  · have h2 : ¬ r * q < 0 := by
      intro z
      have : 0 ≤ r * q := Rat.mul_nonneg (by grind) (by grind)
      grind
    rw [if_neg hq, if_neg h2]
theorem size_mid {c a b : Pnt} {r : Rat} (h0 : 0 < r) (h1 : r < 1) : sizeQ c a (mid a b r) + sizeQ c b (mid a b r) = sizeQ c a b := by
  unfold sizeQ
  rw [cross_mid1, cross_mid2, absQ_neg, absQ_mul h0, absQ_mul (show (0 : Rat) < 1 - r by grind)]
  grind
theorem mul_ne {x y : Rat} (hx : x ≠ 0) (hy : y ≠ 0) : x * y ≠ 0 := fun z => by
  rcases Rat.mul_eq_zero.mp z with z | z
  · exact hx z
  · exact hy z
theorem cr_mid1 {c a b : Pnt} {r : Rat} (h0 : 0 < r) (h : crossQ c a b ≠ 0) : crossQ c a (mid a b r) ≠ 0 := by
  rw [cross_mid1]; exact mul_ne (by grind) h
theorem cr_mid2 {c a b : Pnt} {r : Rat} (h1 : r < 1) (h : crossQ c a b ≠ 0) : crossQ c b (mid a b r) ≠ 0 := by
  rw [cross_mid2]
  have := mul_ne (show (1 - r : Rat) ≠ 0 by grind) h
  grind
/-- on a line through points of two hues there is no third one -/
theorem hue_line {p : Nat} (P : PrimeP p) {a b : Pnt} {r : Rat} (h : hueQ p a ≠ hueQ p b) : hueQ p (mid a b r) = hueQ p a ∨ hueQ p (mid a b r) = hueQ p b := by
  by_cases h1 : hueQ p (mid a b r) = hueQ p a
  · exact .inl h1
  by_cases h2 : hueQ p (mid a b r) = hueQ p b
  · exact .inr h2
  exact absurd (cross_line a b r) (full3_cross P ⟨h, fun z => h1 z.symm, fun z => h2 z.symm⟩).1
/-- a full triangle cut in two: just one half is full -/
theorem full_mid {p : Nat} (P : PrimeP p) {c a b : Pnt} {r : Rat} (h : Full3 p c a b) : (Full3 p c a (mid a b r) ∧ ¬ Full3 p c b (mid a b r)) ∨ (¬ Full3 p c a (mid a b r) ∧ Full3 p c b (mid a b r)) := by
  obtain ⟨h1, h2, h3⟩ := h
  rcases hue_line P (r := r) h3 with e | e
  · refine .inr ⟨fun z => z.2.2 e.symm, h2, ?_, ?_⟩
    · rw [e]; exact h1
    · rw [e]; exact fun z => h3 z.symm
  · refine .inl ⟨⟨h1, ?_, ?_⟩, fun z => z.2.2 e.symm⟩
    · rw [e]; exact h2
    · rw [e]; exact h3
/-- one that is not full: both halves are, or none -/
theorem nofull_mid {p : Nat} (P : PrimeP p) {c a b : Pnt} {r : Rat} (h : ¬ Full3 p c a b) : Full3 p c a (mid a b r) ↔ Full3 p c b (mid a b r) := by
  by_cases hab : hueQ p a = hueQ p b
  · unfold Full3
    rw [hab]
  · constructor
    · rintro ⟨h1, h2, h3⟩
      rcases hue_line P (r := r) hab with e | e
      · exact absurd e.symm h3
      · rw [e] at h2
        exact absurd ⟨h1, h2, hab⟩ h
    · rintro ⟨h1, h2, h3⟩
      rcases hue_line P (r := r) hab with e | e
      · rw [e] at h2
        exact absurd ⟨h2, h1, hab⟩ h
      · exact absurd e.symm h3
end Iv
/-! MC: drawn cuttings. -/
namespace Iv
open PySem Sh
abbrev encC (ts : List Trg) : D := .tup (ts.map encT)
/-! ### slices -/
theorem cut_to {α : Type} (xs : List α) {i : Int} (h : 0 ≤ i) : cut xs none (some i) = xs.take i.toNat := by
  unfold cut
  have e : HT.sIx xs.length xs.length (some i) = min i.toNat xs.length := by
    show (if i < 0 then (i + (xs.length : Int)).toNat else min i.toNat xs.length) = _
    rw [if_neg (by omega)]
  rw [e, HT.sIx_none, List.drop_zero, Nat.sub_zero]
  by_cases hl : i.toNat ≤ xs.length
  · rw [Nat.min_eq_left hl]
  · rw [Nat.min_eq_right (by omega), List.take_of_length_le (Nat.le_refl _), List.take_of_length_le (by omega)]
theorem cut_from {α : Type} (xs : List α) {i : Int} (h : 0 ≤ i) : cut xs (some i) none = xs.drop i.toNat := by
  unfold cut
  have e : HT.sIx xs.length 0 (some i) = min i.toNat xs.length := by
    show (if i < 0 then (i + (xs.length : Int)).toNat else min i.toNat xs.length) = _
    rw [if_neg (by omega)]
  rw [e, HT.sIx_none]
  by_cases hl : i.toNat ≤ xs.length
  · rw [Nat.min_eq_left hl]
    exact List.take_of_length_le (by rw [List.length_drop]; omega)
  · rw [Nat.min_eq_right (by omega), List.drop_of_length_le (Nat.le_refl _), List.drop_of_length_le (by omega), List.take_nil]
theorem add_tup {xs ys : List D} (h : xs.length + ys.length ≤ 1000) : binO .add (.tup xs) (.tup ys) = some (.tup (xs ++ ys)) := if_pos (Nat.le_trans h (by decide))
/-! ### three points, sorted -/
abbrev ptP (p : Pnt) : PyData := .tuple [.tuple [.int p.1.num, .int p.1.den], .tuple [.int p.2.num, .int p.2.den]]
theorem layQ (q : Rat) (k : Nat) : Lay (encQ q) (.tuple [.int q.num, .int q.den]) (k + 1) := .tup (.cons (.int _ _) (.cons (.int _ _) (.nil _)))
theorem layP (p : Pnt) (k : Nat) : Lay (encP p) (ptP p) (k + 2) := .tup (.cons (layQ _ _) (.cons (layQ _ _) (.nil _)))
theorem sorts3 (a b c : Pnt) : sorts [ptP a, ptP b, ptP c] = true := by
  have sh : ∀ p : Pnt, SeqAt.shaped (ptP p) = true := fun p => by
    have := layP p 0
    unfold SeqAt.shaped
    rw [this.2.1, decide_eq_true (Nat.le_trans this.2.2 (by decide))]; rfl
  have al : ∀ p q : Pnt, PySem.W.alike (ptP p) (ptP q) = true := fun p q => by simp [PySem.W.alike, PySem.W.alikeAll]
  simp [sorts, sh, al, sortable1]
theorem sort3 (a b c : Pnt) : ∃ t : Trg, Perm3 t a b c ∧ biO .sorted [.lst [encP a, encP b, encP c]] = some (.lst [encP t.1, encP t.2.1, encP t.2.2]) := by
  have e : biO .sorted [.lst [encP a, encP b, encP c]] = some (.lst (sortBy leD [encP a, encP b, encP c])) := by
    show (sortO [encP a, encP b, encP c]).map D.lst = _
    unfold sortO
    have h : toPys [encP a, encP b, encP c] = some [ptP a, ptP b, ptP c] := by
      rw [toPys, (layP a 0).1, toPys, (layP b 0).1, toPys, (layP c 0).1]; rfl
    rw [h]
    show (if sorts [ptP a, ptP b, ptP c] && decide (3 ≤ big) then some (sortBy leD [encP a, encP b, encP c]) else none).map D.lst = _
    rw [sorts3]; rfl
  rw [e]
  simp only [sortBy, insBy]
  by_cases h1 : leD (encP b) (encP c) = true
  · rw [if_pos h1]
    simp only [insBy]
    by_cases h2 : leD (encP a) (encP b) = true
    · rw [if_pos h2]; exact ⟨(a, b, c), .inl rfl, rfl⟩
    · rw [if_neg h2]
      by_cases h3 : leD (encP a) (encP c) = true
      · rw [if_pos h3]; exact ⟨(b, a, c), .inr (.inr (.inl rfl)), rfl⟩
      · rw [if_neg h3]; exact ⟨(b, c, a), .inr (.inr (.inr (.inl rfl))), rfl⟩
  · rw [if_neg h1]
    simp only [insBy]
    by_cases h2 : leD (encP a) (encP c) = true
    · rw [if_pos h2]; exact ⟨(a, c, b), .inr (.inl rfl), rfl⟩
    · rw [if_neg h2]
      by_cases h3 : leD (encP a) (encP b) = true
      · rw [if_pos h3]; exact ⟨(c, a, b), .inr (.inr (.inr (.inr (.inl rfl)))), rfl⟩
      · rw [if_neg h3]; exact ⟨(c, b, a), .inr (.inr (.inr (.inr (.inr rfl)))), rfl⟩
section
variable {Φ : Nat → Option FnI} {Λ : Nat → Option LamI} {nm : Names} {n : Nat} {S : Store} {C : D → List D → Store → Rs D} {ρ : Iv.Env} {S1 : Store}
/-- tuple(sorted([x, y, z])) -/
theorem E_sort3 {x y z : Ex} {a b c : Pnt} (hx : evE C x ρ S = .ok (encP a) S) (hy : evE C y ρ S = .ok (encP b) S) (hz : evE C z ρ S = .ok (encP c) S) :
    ∃ t : Trg, Perm3 t a b c ∧ evE C (.bi .tuple (.cons (.bi .sorted (.cons (.lst (.cons x (.cons y (.cons z .nil)))) .nil)) .nil)) ρ S = .ok (encT t) S := by
  obtain ⟨t, ht, e⟩ := sort3 a b c
  exact ⟨t, ht, E_bi (Es_cons (E_bi (Es_cons (E_lst (Es_cons hx (Es_cons hy (Es_cons hz Es_nil))) rfl) Es_nil) e) Es_nil) rfl⟩
/-- a triangle as it is seen from one of its corners -/
def cor (t : Trg) : Nat → Pnt × Pnt × Pnt
  | 0 => (t.1, t.2.1, t.2.2)
  | 1 => (t.2.1, t.1, t.2.2)
  | _ => (t.2.2, t.1, t.2.1)
theorem cor_perm (t : Trg) (c : Nat) : Perm3 t (cor t c).1 (cor t c).2.1 (cor t c).2.2 := by
  match c with
  | 0 => exact .inl rfl
  | 1 => exact .inr (.inr (.inl rfl))
  | c + 2 => exact .inr (.inr (.inr (.inl rfl)))
def LgT (k : Nat) (t : Trg) : Prop := LgP k t.1 ∧ LgP k t.2.1 ∧ LgP k t.2.2
theorem LgT.cor {k : Nat} {t : Trg} (h : LgT k t) (c : Nat) : LgP k (cor t c).1 ∧ LgP k (cor t c).2.1 ∧ LgP k (cor t c).2.2 := by
  obtain ⟨h1, h2, h3⟩ := h
  match c with
  | 0 => exact ⟨h1, h2, h3⟩
  | 1 => exact ⟨h2, h1, h3⟩
  | c + 2 => exact ⟨h3, h1, h2⟩
theorem LgT.perm {k : Nat} {t : Trg} {a b c : Pnt} (h : Perm3 t a b c) (ha : LgP k a) (hb : LgP k b) (hc : LgP k c) : LgT k t := by
  rcases h with rfl | rfl | rfl | rfl | rfl | rfl <;> exact ⟨by assumption, by assumption, by assumption⟩
theorem qsum_mid (x g r : Rat) : qsum [(x.num, (x.den : Int)), (g.num * r.num, (g.den : Int) * r.den)] = x + g * r := by
  show (0 + Rat.divInt x.num x.den) + Rat.divInt (g.num * r.num) (g.den * r.den) = _
  rw [Rat.zero_add, Rat.num_divInt_den, ← Rat.divInt_mul_divInt, Rat.num_divInt_den, Rat.num_divInt_den]
theorem forLoop_cons {p : Pt} {b : Iv.Env → Store → Rs Ou} {x : D} {xs : List D} {ρ1 ρ2 : Iv.Env} {r : Rs Ou} (h : p.put x ρ = some ρ1) (h2 : b ρ1 S = .ok (.next ρ2) S1) (h3 : forLoop p b xs ρ2 S1 = r) : forLoop p b (x :: xs) ρ S = r := by
  rw [forLoop, h]; show Rs.bind (b ρ1 S) _ = _; rw [h2]; exact h3
theorem forLoop_nil {p : Pt} {b : Iv.Env → Store → Rs Ou} : forLoop p b [] ρ S = .ok (.next ρ) S := rfl
def sxN : Sxs → Nat → Sx
  | .cons s _, 0 => s
  | .cons _ ss, n + 1 => sxN ss n
  | .nil, _ => .raise 0
def sxD : Sxs → Nat → Sxs
  | ss, 0 => ss
  | .cons _ ss, n + 1 => sxD ss n
  | .nil, _ => .nil
def sxB : Sx → Sxs
  | .for_ _ _ b => b
  | .while_ _ b => b
  | .ite _ b _ => b
  | _ => .nil
theorem sp_mid (hg : Φ 24 = some b__law_gcd) (hl : Φ 25 = some b__law_low) (hs : Φ 26 = some b__law_sum) {k : Nat} {x g r : Rat} (hx : Lg k x) (hgp : Lg k g) (hr : Lg k r) (hk : k ≤ 200) :
    callF Φ Λ nm FF4 (n + 3) (.fn 26) [.lst [encQ x, .tup [.int (g.num * r.num), .int (g.den * r.den)]]] S = .ok (encQ (x + g * r)) S := by
  rw [← qsum_mid]
  refine sp_law_sum (ps := [(x.num, (x.den : Int)), (g.num * r.num, (g.den : Int) * r.den)]) hg hl hs (k := k + k) (fun p hp => ?_) (by show 2 * (k + k + 1) + (k + k) ≤ 1900; omega)
  have h1 := den_pos x
  simp only [List.mem_cons, List.mem_nil_iff, or_false] at hp
  rcases hp with rfl | rfl
  · have := hx.mono (show k ≤ k + k by omega)
    exact ⟨h1, this.1, by rw [Int.natAbs_natCast]; exact this.2⟩
  · exact ⟨Int.mul_pos (den_pos g) (den_pos r), mul_fig hgp.1 hr.1, mul_fig (by rw [Int.natAbs_natCast]; exact hgp.2) (by rw [Int.natAbs_natCast]; exact hr.2)⟩
abbrev hvB : Sxs := sxB (sxN b__law_halved.body 3)
theorem halved_in (hg : Φ 24 = some b__law_gcd) (hl : Φ 25 = some b__law_low) (hs : Φ 26 = some b__law_sum) {x y r : Rat} (hx : Lg 7 x) (hy : Lg 7 y) (hr : Lg 7 r) {L : List D} (hL : L.length < 100) (a0 a1 a2 a4 a5 a6 a10 a11 a12 : Sl) :
    evSs (callF Φ Λ nm FF4 (n + 3)) nm FF4 hvB [a0, a1, a2, .val (encQ r), a4, a5, a6, .own L, .val (encQ x), .val (encQ y), a10, a11, a12] S =
      .ok (.next [a0, a1, a2, .val (encQ r), a4, a5, a6, .own (L ++ [encQ (x + (y - x) * r)]), .val (encQ x), .val (encQ y), .val (encQ (y - x)), a11, a12]) S := by
  have lg := lg_sub hy hx
  refine R_asg (d := encQ (y - x)) (S1 := S) (ρ1 := [a0, a1, a2, .val (encQ r), a4, a5, a6, .own L, .val (encQ x), .val (encQ y), .val (encQ (y - x)), a11, a12]) (E_call (S1 := S) ?_ (sp_diff hg hl hs hy hx (by decide))) rfl ?_
  · repeat (first
    | with_reducible exact E_lit
    | (with_reducible apply E_var; rfl)
    | (with_reducible apply R_ret)
    | (with_reducible apply R_asg)
    | (with_reducible apply R_par2)
    | (with_reducible apply R_par3)
    | (with_reducible apply R_asg2)
    | (with_reducible apply R_expr)
    | (with_reducible apply R_own)
    | (with_reducible apply R_retOwn; rfl)
    | (with_reducible apply R_frz)
    | (with_reducible apply R_retNew)
    | (with_reducible exact R_raise)
    | (with_reducible exact Es_nil)
    | (with_reducible apply Es_cons)
    | (with_reducible apply E_tup)
    | (with_reducible apply E_lst)
    | (with_reducible apply E_bin)
    | (with_reducible apply E_neg)
    | (with_reducible apply E_not)
    | (with_reducible apply E_cmp)
    | (with_reducible apply E_chain)
    | (with_reducible apply E_sub)
    | (with_reducible apply E_slice)
    | (with_reducible apply E_rev)
    | (with_reducible apply E_isa)
    | (with_reducible apply E_bi)
    | (with_reducible apply E_call)
    | (with_reducible exact O_none)
    | (with_reducible apply O_some)
    | (with_reducible exact C_none)
    | (with_reducible apply C_some)
    | (with_reducible apply T_of)
    | (with_reducible apply I_over)
    | (with_reducible apply I_range1)
    | (with_reducible apply I_range2)
    | (with_reducible apply I_enum)
    | (with_reducible exact Ss_nil)
    | (with_reducible exact B_add)
    | (with_reducible exact B_sub)
    | (with_reducible apply B_mul; rotate_left)
    | (simp only [Sxs.app]) | rfl )
  refine R_app (xs := L) (d := encQ (x + (y - x) * r)) (S1 := S) rfl (E_call (S1 := S) ?_ (sp_mid hg hl hs (k := 15) (hx.mono (by decide)) lg (hr.mono (by decide)) (by decide))) (by unfold big; omega) Ss_nil
  repeat (first
    | with_reducible exact E_lit
    | (with_reducible apply E_var; rfl)
    | (with_reducible apply R_ret)
    | (with_reducible apply R_asg)
    | (with_reducible apply R_par2)
    | (with_reducible apply R_par3)
    | (with_reducible apply R_asg2)
    | (with_reducible apply R_expr)
    | (with_reducible apply R_own)
    | (with_reducible apply R_retOwn; rfl)
    | (with_reducible apply R_frz)
    | (with_reducible apply R_retNew)
    | (with_reducible exact R_raise)
    | (with_reducible exact Es_nil)
    | (with_reducible apply Es_cons)
    | (with_reducible apply E_tup)
    | (with_reducible apply E_lst)
    | (with_reducible apply E_bin)
    | (with_reducible apply E_neg)
    | (with_reducible apply E_not)
    | (with_reducible apply E_cmp)
    | (with_reducible apply E_chain)
    | (with_reducible apply E_sub)
    | (with_reducible apply E_slice)
    | (with_reducible apply E_rev)
    | (with_reducible apply E_isa)
    | (with_reducible apply E_bi)
    | (with_reducible apply E_call)
    | (with_reducible exact O_none)
    | (with_reducible apply O_some)
    | (with_reducible exact C_none)
    | (with_reducible apply C_some)
    | (with_reducible apply T_of)
    | (with_reducible apply I_over)
    | (with_reducible apply I_range1)
    | (with_reducible apply I_range2)
    | (with_reducible apply I_enum)
    | (with_reducible exact Ss_nil)
    | (with_reducible exact B_add)
    | (with_reducible exact B_sub)
    | (with_reducible apply B_mul; rotate_left)
    | (simp only [Sxs.app]) | rfl )
  · exact mulOk_fig lg.1 hr.1 (by decide) (by decide)
  · exact mulOk_fig (by rw [Int.natAbs_natCast]; exact lg.2) (by rw [Int.natAbs_natCast]; exact hr.2) (by decide) (by decide)
/-- a cutting in which the triangle i is cut in two -/
def cutAt (ts : List Trg) (i : Nat) (h0 h1 : Trg) : List Trg := ts.take i ++ [h0] ++ ts.drop (i + 1) ++ [h1]
theorem sp_halved (hg : Φ 24 = some b__law_gcd) (hl : Φ 25 = some b__law_low) (hs : Φ 26 = some b__law_sum) (h : Φ 73 = some b__law_halved) {ts : List Trg} {i : Int} {c : Nat} {t : Trg} (h0 : 0 ≤ i) (hi : ts[i.toNat]? = some t) (hc : c < 3) (hlen : ts.length < 100) (ht : LgT 7 t) {r : Rat} (hr : Lg 7 r) :
    ∃ t0 t1, Perm3 t0 (cor t c).1 (cor t c).2.1 (mid (cor t c).2.1 (cor t c).2.2 r) ∧ Perm3 t1 (cor t c).1 (cor t c).2.2 (mid (cor t c).2.1 (cor t c).2.2 r) ∧
      callF Φ Λ nm FF4 (n + 4) (.fn 73) [encC ts, .int i, .int c, encQ r] S = .ok (encC (cutAt ts i.toNat t0 t1)) S := by
  obtain ⟨l1, l2, l3⟩ := ht.cor c
  have e1 : subO (deref S (encC ts)) (.int i) = some (encT t) := by
    show L2.atI (ts.map encT) i = _
    rw [atI_nat h0, List.getElem?_map, hi]; rfl
  -- seen from the corner
  have e2 : ∀ ρ : Iv.Env, slotD ρ 4 = some (encT t) → slotD ρ 2 = some (.int c) → evE (callF Φ Λ nm FF4 (n + 3)) (.bin .add (.slice (.var 4) .none (.some (.var 2))) (.slice (.var 4) (.some (.bin .add (.var 2) (.lit (.int 1)))) .none)) ρ S = .ok (.tup [encP (cor t c).2.1, encP (cor t c).2.2]) S := by
    intro ρ h4 h2
    match c, hc with
    | 0, _ => exact E_bin (E_slice (E_var h4) O_none (O_some (E_var h2)) rfl) (E_slice (E_var h4) (O_some (E_bin (E_var h2) E_lit rfl)) O_none rfl) rfl
    | 1, _ => exact E_bin (E_slice (E_var h4) O_none (O_some (E_var h2)) rfl) (E_slice (E_var h4) (O_some (E_bin (E_var h2) E_lit rfl)) O_none rfl) rfl
    | 2, _ => exact E_bin (E_slice (E_var h4) O_none (O_some (E_var h2)) rfl) (E_slice (E_var h4) (O_some (E_bin (E_var h2) E_lit rfl)) O_none rfl) rfl
  have e3 : subO (deref S (encT t)) (.int c) = some (encP (cor t c).1) := by
    match c, hc with
    | 0, _ => rfl
    | 1, _ => rfl
    | 2, _ => rfl
  generalize hA : (cor t c).1 = A at *
  generalize hB : (cor t c).2.1 = B at *
  generalize hC : (cor t c).2.2 = Cc at *
  let ρf : Iv.Env := [.val (encC ts), .val (.int i), .val (.int c), .val (encQ r), .val (encT t), .val (encP B), .val (encP Cc), .val (.lst [encQ (mid B Cc r).1, encQ (mid B Cc r).2]), .val (encQ B.2), .val (encQ Cc.2), .val (encQ (Cc.2 - B.2)), .val (encP (mid B Cc r)), .none]
  obtain ⟨t0, p0, s0⟩ := E_sort3 (C := callF Φ Λ nm FF4 (n + 3)) (ρ := ρf) (S := S) (x := .sub (.var 4) (.var 2)) (y := .var 5) (z := .var 11) (a := A) (b := B) (c := mid B Cc r) (E_sub (E_var rfl) (E_var rfl) e3) (E_var rfl) (E_var rfl)
  obtain ⟨t1, p1, s1⟩ := E_sort3 (C := callF Φ Λ nm FF4 (n + 3)) (ρ := ρf) (S := S) (x := .sub (.var 4) (.var 2)) (y := .var 6) (z := .var 11) (a := A) (b := Cc) (c := mid B Cc r) (E_sub (E_var rfl) (E_var rfl) e3) (E_var rfl) (E_var rfl)
  refine ⟨t0, t1, p0, p1, ?_⟩
  refine call_ret h rfl (R_asg (d := encT t) (S1 := S) (ρ1 := [.val (encC ts), .val (.int i), .val (.int c), .val (encQ r), .val (encT t), .none, .none, .none, .none, .none, .none, .none, .none]) (E_sub (E_var rfl) (E_var rfl) e1) rfl
    (R_asg (d := .tup [encP B, encP Cc]) (S1 := S) (ρ1 := [.val (encC ts), .val (.int i), .val (.int c), .val (encQ r), .val (encT t), .val (encP B), .val (encP Cc), .none, .none, .none, .none, .none, .none]) (e2 _ rfl rfl) rfl
    (R_own (S1 := S) Es_nil rfl (R_for (S1 := S) (S2 := S) (ρ1 := [.val (encC ts), .val (.int i), .val (.int c), .val (encQ r), .val (encT t), .val (encP B), .val (encP Cc), .own [encQ (mid B Cc r).1, encQ (mid B Cc r).2], .val (encQ B.2), .val (encQ Cc.2), .val (encQ (Cc.2 - B.2)), .none, .none])
      (I_zip_t (xs := [encQ B.1, encQ B.2]) (ys := [encQ Cc.1, encQ Cc.2]) (E_var rfl) (E_var rfl)) ?_ (R_frz (xs := [encQ (mid B Cc r).1, encQ (mid B Cc r).2]) rfl (R_asg (d := encP (mid B Cc r)) (S1 := S) (ρ1 := ρf) ?_ rfl
        (R_asg (d := .lst [encT t0, encT t1]) (S1 := S) (ρ1 := ρf.set 12 (.val (.lst [encT t0, encT t1]))) (E_lst (Es_cons s0 (Es_cons s1 Es_nil)) rfl) rfl (R_ret ?_))))))))
  · exact forLoop_cons (ρ1 := [.val (encC ts), .val (.int i), .val (.int c), .val (encQ r), .val (encT t), .val (encP B), .val (encP Cc), .own [], .val (encQ B.1), .val (encQ Cc.1), .none, .none, .none]) rfl (halved_in hg hl hs l2.1 l3.1 hr (by decide) _ _ _ _ _ _ _ _ _)
      (forLoop_cons (ρ1 := [.val (encC ts), .val (.int i), .val (.int c), .val (encQ r), .val (encT t), .val (encP B), .val (encP Cc), .own [encQ (mid B Cc r).1], .val (encQ B.2), .val (encQ Cc.2), .val (encQ (Cc.1 - B.1)), .none, .none]) rfl (halved_in hg hl hs l2.2 l3.2 hr (by simp) _ _ _ _ _ _ _ _ _) forLoop_nil)
  · repeat (first
    | with_reducible exact E_lit
    | (with_reducible apply E_var; rfl)
    | (with_reducible apply R_ret)
    | (with_reducible apply R_asg)
    | (with_reducible apply R_par2)
    | (with_reducible apply R_par3)
    | (with_reducible apply R_asg2)
    | (with_reducible apply R_expr)
    | (with_reducible apply R_own)
    | (with_reducible apply R_retOwn; rfl)
    | (with_reducible apply R_frz)
    | (with_reducible apply R_retNew)
    | (with_reducible exact R_raise)
    | (with_reducible exact Es_nil)
    | (with_reducible apply Es_cons)
    | (with_reducible apply E_tup)
    | (with_reducible apply E_lst)
    | (with_reducible apply E_bin)
    | (with_reducible apply E_neg)
    | (with_reducible apply E_not)
    | (with_reducible apply E_cmp)
    | (with_reducible apply E_chain)
    | (with_reducible apply E_sub)
    | (with_reducible apply E_slice)
    | (with_reducible apply E_rev)
    | (with_reducible apply E_isa)
    | (with_reducible apply E_bi)
    | (with_reducible apply E_call)
    | (with_reducible exact O_none)
    | (with_reducible apply O_some)
    | (with_reducible exact C_none)
    | (with_reducible apply C_some)
    | (with_reducible apply T_of)
    | (with_reducible apply I_over)
    | (with_reducible apply I_range1)
    | (with_reducible apply I_range2)
    | (with_reducible apply I_enum)
    | (with_reducible exact Ss_nil)
    | (with_reducible exact B_add)
    | (with_reducible exact B_sub)
    | (with_reducible apply B_mul; rotate_left)
    | (simp only [Sxs.app]) | rfl )
  · have hlt : i.toNat < ts.length := (List.getElem?_eq_some_iff.mp hi).1
    have s1 : sliceO (encC ts) none (some i) = some (.tup ((ts.map encT).take i.toNat)) := by
      show some (D.tup (cut (ts.map encT) none (some i))) = _
      rw [cut_to _ h0]
    have s2 : sliceO (encC ts) (some (i + 1)) none = some (.tup ((ts.map encT).drop (i.toNat + 1))) := by
      show some (D.tup (cut (ts.map encT) (some (i + 1)) none)) = _
      rw [cut_from _ (by omega), show (i + 1).toNat = i.toNat + 1 by omega]
    have e : encC (cutAt ts i.toNat t0 t1) = .tup ((((ts.map encT).take i.toNat ++ [encT t0]) ++ (ts.map encT).drop (i.toNat + 1)) ++ [encT t1]) := by
      unfold encC cutAt
      simp [List.map_take, List.map_drop]
    rw [e]
    refine E_bin (S1 := S) (E_bin (S1 := S) (E_bin (S1 := S) (E_slice (E_var rfl) O_none (O_some (E_var rfl)) s1) (E_tup (Es_cons (E_sub (E_var rfl) E_lit rfl) Es_nil) rfl) (add_tup ?_)) (E_slice (E_var rfl) (O_some (E_bin (E_var rfl) E_lit rfl)) O_none s2) (add_tup ?_)) (E_tup (Es_cons (E_sub (E_var rfl) E_lit rfl) Es_nil) rfl) (add_tup ?_)
    · simp only [List.length_take, List.length_map, List.length_cons, List.length_nil]; omega
    · simp only [List.length_append, List.length_take, List.length_drop, List.length_map, List.length_cons, List.length_nil]; omega
    · simp only [List.length_append, List.length_take, List.length_drop, List.length_map, List.length_cons, List.length_nil]; omega
/-! ### fractions and points as handed in -/
def qOk (q : Rat) : Bool := decide ((q.den : Int) ≤ 10 ^ 6) && (decide (-(10 ^ 6) ≤ q.num) && decide (q.num ≤ 10 ^ 6))
theorem sp_law_is_whole (h : Φ 22 = some b__law_is_whole) (a lo hi : Int) : callF Φ Λ nm FF4 (n + 1) (.fn 22) [.int a, .int lo, .int hi] S = .ok (.bl (decide (lo ≤ a) && decide (a ≤ hi))) S := by
  refine call_ret h rfl ?_
  repeat (first
    | with_reducible exact E_lit
    | (with_reducible apply E_var; rfl)
    | (with_reducible apply R_ret)
    | (with_reducible apply R_asg)
    | (with_reducible apply R_par2)
    | (with_reducible apply R_par3)
    | (with_reducible apply R_asg2)
    | (with_reducible apply R_expr)
    | (with_reducible apply R_own)
    | (with_reducible apply R_retOwn; rfl)
    | (with_reducible apply R_frz)
    | (with_reducible apply R_retNew)
    | (with_reducible exact R_raise)
    | (with_reducible exact Es_nil)
    | (with_reducible apply Es_cons)
    | (with_reducible apply E_tup)
    | (with_reducible apply E_lst)
    | (with_reducible apply E_bin)
    | (with_reducible apply E_neg)
    | (with_reducible apply E_not)
    | (with_reducible apply E_cmp)
    | (with_reducible apply E_chain)
    | (with_reducible apply E_sub)
    | (with_reducible apply E_slice)
    | (with_reducible apply E_rev)
    | (with_reducible apply E_isa)
    | (with_reducible apply E_bi)
    | (with_reducible apply E_call)
    | (with_reducible exact O_none)
    | (with_reducible apply O_some)
    | (with_reducible exact C_none)
    | (with_reducible apply C_some)
    | (with_reducible apply T_of)
    | (with_reducible apply I_over)
    | (with_reducible apply I_range1)
    | (with_reducible apply I_range2)
    | (with_reducible apply I_enum)
    | (with_reducible exact Ss_nil)
    | (with_reducible exact B_add)
    | (with_reducible exact B_sub)
    | (with_reducible apply B_mul; rotate_left)
    | (simp only [Sxs.app]) | rfl )
  refine E_and_t (E_isa (E_var rfl) rfl) rfl ?_
  refine E_and_t (x := .bl true) (E_not (k := false) (E_isa (E_var rfl) rfl) rfl) rfl ?_
  repeat (first
    | with_reducible exact E_lit
    | (with_reducible apply E_var; rfl)
    | (with_reducible apply R_ret)
    | (with_reducible apply R_asg)
    | (with_reducible apply R_par2)
    | (with_reducible apply R_par3)
    | (with_reducible apply R_asg2)
    | (with_reducible apply R_expr)
    | (with_reducible apply R_own)
    | (with_reducible apply R_retOwn; rfl)
    | (with_reducible apply R_frz)
    | (with_reducible apply R_retNew)
    | (with_reducible exact R_raise)
    | (with_reducible exact Es_nil)
    | (with_reducible apply Es_cons)
    | (with_reducible apply E_tup)
    | (with_reducible apply E_lst)
    | (with_reducible apply E_bin)
    | (with_reducible apply E_neg)
    | (with_reducible apply E_not)
    | (with_reducible apply E_cmp)
    | (with_reducible apply E_chain)
    | (with_reducible apply E_sub)
    | (with_reducible apply E_slice)
    | (with_reducible apply E_rev)
    | (with_reducible apply E_isa)
    | (with_reducible apply E_bi)
    | (with_reducible apply E_call)
    | (with_reducible exact O_none)
    | (with_reducible apply O_some)
    | (with_reducible exact C_none)
    | (with_reducible apply C_some)
    | (with_reducible apply T_of)
    | (with_reducible apply I_over)
    | (with_reducible apply I_range1)
    | (with_reducible apply I_range2)
    | (with_reducible apply I_enum)
    | (with_reducible exact Ss_nil)
    | (with_reducible exact B_add)
    | (with_reducible exact B_sub)
    | (with_reducible apply B_mul; rotate_left)
    | (simp only [Sxs.app]) | rfl )
theorem gcd_q (q : Rat) : (Int.gcd q.num q.den : Int) = 1 := by
  have := q.reduced
  unfold Int.gcd
  rw [Int.natAbs_natCast]
  exact congrArg Nat.cast this
theorem den_FF {q : Rat} {k : Nat} (h : Lg k q) (hk : k ≤ 2000) : ((q.den : Int)).natAbs < FF4 := fig_FF (k := k) (by rw [Int.natAbs_natCast]; exact h.2) hk
theorem sp_law_is_fraction (hw : Φ 22 = some b__law_is_whole) (hg : Φ 24 = some b__law_gcd) (h : Φ 27 = some b__law_is_fraction) {k : Nat} {q : Rat} (hq : Lg k q) (hk : k ≤ 2000) :
    callF Φ Λ nm FF4 (n + 2) (.fn 27) [encQ q] S = .ok (.bl (qOk q)) S := by
  have hd := den_pos q
  have hw1 := sp_law_is_whole (Φ := Φ) (Λ := Λ) (nm := nm) (n := n) (S := S) hw (q.den : Int) 1 (10 ^ 6)
  rw [decide_eq_true (show (1 : Int) ≤ q.den by omega), Bool.true_and] at hw1
  have hw2 := sp_law_is_whole (Φ := Φ) (Λ := Λ) (nm := nm) (n := n) (S := S) hw q.num (-(10 ^ 6)) (10 ^ 6)
  have hc : evE (callF Φ Λ nm FF4 (n + 1)) (.or (.not (.isa .tuple (.var 0))) (.or (.cmp .ne (.bi .len (.cons (.var 0) .nil)) (.lit (.int 2))) (.not (.call 22 (.cons (.sub (.var 0) (.lit (.int 1))) (.cons (.lit (.int 1)) (.cons (.bin .pow (.lit (.int 10)) (.lit (.int 6))) .nil))))))) (frameN 1 [encQ q]) S = .ok (.bl (!decide ((q.den : Int) ≤ 10 ^ 6))) S := by
    refine E_or_f (x := .bl false) (S1 := S) (E_not (k := true) (E_isa (E_var rfl) rfl) rfl) rfl (E_or_f (x := .bl false) (S1 := S) (E_cmp (E_bi (Es_cons (E_var rfl) Es_nil) rfl) E_lit (c_ne_int 2 2)) rfl (E_not (x := .bl (decide ((q.den : Int) ≤ 10 ^ 6))) (E_call (Es_cons (E_sub (E_var rfl) E_lit rfl) (Es_cons E_lit (Es_cons (E_bin E_lit E_lit rfl) Es_nil))) hw1) rfl))
  by_cases h6 : (q.den : Int) ≤ 10 ^ 6
  · rw [decide_eq_true h6] at hc
    refine call_ret h rfl (R_ite_f (S1 := S) (k := false) (T_of hc rfl) rfl (R_ret ?_))
    have e : qOk q = ((decide (-(10 ^ 6) ≤ q.num) && decide (q.num ≤ 10 ^ 6)) && true) := by unfold qOk; rw [decide_eq_true h6]; simp
    rw [e]
    refine E_and_b (S1 := S) (E_call (Es_cons (E_sub (E_var rfl) E_lit rfl) (Es_cons (E_neg (E_bin E_lit E_lit rfl)) (Es_cons (E_bin E_lit E_lit rfl) Es_nil))) hw2) (E_cmp (x := .int 1) (S1 := S) (E_call (Es_cons (E_sub (E_var rfl) E_lit rfl) (Es_cons (E_sub (E_var rfl) E_lit rfl) Es_nil)) ?_) E_lit (c_eq_int 1 1))
    have := sp_law_gcd (Φ := Φ) (Λ := Λ) (nm := nm) (F := FF4) (n := n) (S := S) hg q.num q.den (den_FF hq hk)
    rw [gcd_q] at this
    exact this
  · rw [decide_eq_false h6] at hc
    have e : qOk q = false := by unfold qOk; rw [decide_eq_false h6]; rfl
    rw [e]
    refine call_ret h rfl (R_ite_t (S1 := S) (k := true) (T_of hc rfl) rfl ?_)
    exact R_ret E_lit
theorem c_ne_nil {xs : List D} {ps : List PyData} {k : Nat} (h : LayL xs ps k) (hk : k < 64) : cmpO .ne (.lst xs) (.lst []) = some (!xs.isEmpty) := by
  rw [cmpO_ne, ← cmpO_eq, c_eq_nil h hk]; rfl
def pOk (p : Pnt) : Bool := qOk p.1 && qOk p.2
theorem sp_law_is_point (hw : Φ 22 = some b__law_is_whole) (hg : Φ 24 = some b__law_gcd) (hf : Φ 27 = some b__law_is_fraction) (h : Φ 28 = some b__law_is_point) {k : Nat} {p : Pnt} (hp : LgP k p) (hk : k ≤ 2000) :
    callF Φ Λ nm FF4 (n + 3) (.fn 28) [encP p] S = .ok (.bl (pOk p)) S := by
  refine call_ret h rfl (R_ret (E_and_t (E_isa (E_var rfl) rfl) rfl (E_and_t (x := .bl true) (S1 := S) (E_cmp (E_bi (Es_cons (E_var rfl) Es_nil) rfl) E_lit (c_eq_int 2 2)) rfl (E_cmp (x := .lst (([p.1, p.2].filter fun q => !qOk q).map encQ)) (S1 := S) (E_comp (xs := [p.1, p.2].map encQ) (S1 := S) (I_over (E_var rfl) rfl) (compLoop_filter (fun q => !qOk q) encQ fun q hq => ⟨_, rfl, elem_b (C_some (x := .bl (!qOk q)) (E_not (E_call (Es_cons (E_var rfl) Es_nil) (sp_law_is_fraction (k := k) hw hg hf ?_ hk)) rfl) rfl) fun _ => E_var rfl⟩) ?_) (E_lst Es_nil rfl) ?_))))
  · simp only [List.mem_cons, List.mem_nil_iff, or_false] at hq
    rcases hq with rfl | rfl
    · exact hp.1
    · exact hp.2
  · rw [List.length_map]; exact Nat.le_trans (List.length_filter_le _ _) (Nat.le_of_ble_eq_true rfl)
  · rw [c_eq_nil (ps := ([p.1, p.2].filter fun q => !qOk q).map fun q => .tuple [.int q.num, .int q.den]) (k := 1) (LayL.map fun q _ => layQ q 0) (by decide)]
    unfold pOk
    cases h1 : qOk p.1 <;> cases h2 : qOk p.2 <;> simp [List.filter_cons, h1, h2]
def tOk (t : Trg) : Bool := pOk t.1 && (pOk t.2.1 && pOk t.2.2)
theorem sp_reached (hw : Φ 22 = some b__law_is_whole) (hg : Φ 24 = some b__law_gcd) (hf : Φ 27 = some b__law_is_fraction) (hpt : Φ 28 = some b__law_is_point) (h : Φ 74 = some b__law_reached) {k : Nat} {ts : List Trg} (ht : ∀ t ∈ ts, LgT k t) (hk : k ≤ 2000) (hl : ts.length < 1000) :
    callF Φ Λ nm FF4 (n + 4) (.fn 74) [encC ts] S = .ok (.bl (ts.all tOk)) S := by
  refine call_ret h rfl (R_ret (E_cmp (x := .lst ((ts.filter fun t => !tOk t).map fun _ => .int 1)) (S1 := S) (E_comp (xs := ts.map encT) (S1 := S) (I_over (E_var rfl) rfl) (compLoop_filter (fun t => !tOk t) (fun _ => .int 1) fun t hm => ⟨_, rfl, elem_b (C_some (x := .bl (!tOk t)) ?_ rfl) fun _ => E_lit⟩) ?_) (E_lst Es_nil rfl) ?_))
  · obtain ⟨h1, h2, h3⟩ := ht t hm
    have hlay : LayL (([t.1, t.2.1, t.2.2].filter fun p => !pOk p).map encP) (([t.1, t.2.1, t.2.2].filter fun p => !pOk p).map ptP) 2 := LayL.map fun p _ => layP p 0
    have e : (!tOk t) = !(([t.1, t.2.1, t.2.2].filter fun p => !pOk p).map encP).isEmpty := by
      unfold tOk
      cases h1 : pOk t.1 <;> cases h2 : pOk t.2.1 <;> cases h3 : pOk t.2.2 <;> simp [List.filter_cons, h1, h2, h3]
    rw [e]
    refine E_cmp (x := .lst (([t.1, t.2.1, t.2.2].filter fun p => !pOk p).map encP)) (S1 := S) (E_comp (xs := [t.1, t.2.1, t.2.2].map encP) (S1 := S) (I_over (E_var rfl) rfl) (compLoop_filter (fun p => !pOk p) encP fun p hp => ⟨_, rfl, elem_b (C_some (x := .bl (!pOk p)) (E_not (E_call (Es_cons (E_var rfl) Es_nil) (sp_law_is_point (k := k) hw hg hf hpt ?_ hk)) rfl) rfl) fun _ => E_var rfl⟩) ?_) (E_lst Es_nil rfl) (c_ne_nil hlay (by decide))
    · simp only [List.mem_cons, List.mem_nil_iff, or_false] at hp
      rcases hp with rfl | rfl | rfl
      · exact h1
      · exact h2
      · exact h3
    · rw [List.length_map]; exact Nat.le_trans (List.length_filter_le _ _) (Nat.le_of_ble_eq_true rfl)
  · rw [List.length_map]; exact Nat.le_trans (List.length_filter_le _ _) (Nat.le_trans (Nat.le_of_lt hl) (by decide))
  · rw [c_eq_nil (ps := (ts.filter fun t => !tOk t).map fun _ => .int 1) (k := 1) (LayL.map fun _ _ => .int 1 1) (by decide)]
    congr 1
    induction ts with
    | nil => rfl
    | cons t ts ih =>
      rw [List.filter_cons, List.all_cons]
      cases e : tOk t
      · rfl
      · simpa using ih (fun x hx => ht x (List.mem_cons_of_mem _ hx)) (by rw [List.length_cons] at hl; omega)
theorem ok_lg {q : Rat} (h : qOk q = true) : Lg 7 q := by
  simp only [qOk, Bool.and_eq_true, decide_eq_true_eq] at h
  exact ⟨by omega, by omega⟩
theorem tok_lg {t : Trg} (h : tOk t = true) : LgT 7 t := by
  simp only [tOk, pOk, Bool.and_eq_true] at h
  exact ⟨⟨ok_lg h.1.1, ok_lg h.1.2⟩, ⟨ok_lg h.2.1.1, ok_lg h.2.1.2⟩, ⟨ok_lg h.2.2.1, ok_lg h.2.2.2⟩⟩
/-! ### drawn parts of a side -/
theorem rat_pos {n d : Int} (hn : 0 < n) (hd : 0 < d) : 0 < Rat.divInt n d := by
  have h1 := Rat.num_divInt n d
  have : (Rat.divInt n d).num * d = n * (Rat.divInt n d).den := by
    have := Rat.num_divInt_den (Rat.divInt n d)
    have dn := (Rat.divInt n d).den_nz
    exact (Rat.divInt_eq_divInt_iff (by omega) (by omega)).mp this
  have dn := den_pos (Rat.divInt n d)
  have hm := Int.mul_pos hn dn
  rw [Rat.lt_iff]
  have : 0 < (Rat.divInt n d).num := by
    rcases Int.lt_or_le 0 (Rat.divInt n d).num with z | z
    · exact z
    · have := Int.mul_nonpos_of_nonpos_of_nonneg z (Int.le_of_lt hd)
      omega
  simpa using this
theorem rat_lt1 {n d : Int} (h : n < d) (hd : 0 < d) : Rat.divInt n d < 1 := by
  have e : (1 : Rat) - Rat.divInt n d = Rat.divInt (d - n) d := by
    have : (1 : Rat) = Rat.divInt d d := by
      have := Rat.divInt_mul_right (n := 1) (d := 1) (a := d) (by omega)
      rw [Int.one_mul] at this
      rw [this]; rfl
    rw [this, Rat.divInt_sub_divInt _ _ (by omega) (by omega)]
    have := Rat.divInt_mul_right (n := d - n) (d := d) (a := d) (by omega)
    rw [← this, Int.sub_mul]
  have := rat_pos (show 0 < d - n by omega) hd
  rw [← e] at this
  grind
theorem sp_part (hU : Φ 20 = some b__law_under) (hS : Φ 21 = some b__law_some) (hg : Φ 24 = some b__law_gcd) (hl : Φ 25 = some b__law_low) (h : Φ 75 = some b__law_part) {m : Nat} (v : Vat m S) :
    ∃ r S', callF Φ Λ nm FF4 (n + 3) (.fn 75) [.obj m] S = .ok (encQ r) S' ∧ (0 < r ∧ r < 1) ∧ Lg 3 r ∧ VS m S S' := by
  obtain ⟨d, S1, e1, hd, v1⟩ := sp_some (Λ := Λ) (nm := nm) (F := FF4) (n := n) hU hS v (xs := [.int 2, .int 2, .int 3, .int 3, .int 4, .int 5, .int 7, .int 100]) (by simp) (by simp)
  obtain ⟨b, hb, rfl⟩ : ∃ b : Int, (2 ≤ b ∧ b ≤ 100) ∧ d = .int b := by
    simp only [List.mem_cons, List.mem_nil_iff, or_false] at hd
    rcases hd with e | e | e | e | e | e | e | e <;> exact ⟨_, by decide, e⟩
  obtain ⟨u, S2, e2, u0, u1, v2⟩ := sp_under (Λ := Λ) (nm := nm) (F := FF4) (n := n + 1) hU v1.vat (k := b - 1) (by omega) (by omega)
  refine ⟨Rat.divInt (1 + u) b, S2, ?_, ⟨rat_pos (by omega) (by omega), rat_lt1 (by omega) (by omega)⟩, lg_divInt (by omega) (by omega) (by omega), v1.trans v2⟩
  refine call_ret h rfl (R_asg (d := .int b) (S1 := S1) (E_call ?_ e1) rfl (R_ret (E_call (ds := [.int (1 + u), .int b]) (S1 := S2) ?_ (sp_law_low hg hl (k := 3) (by omega) (by omega) (by decide)))))
  · repeat (first
    | with_reducible exact E_lit
    | (with_reducible apply E_var; rfl)
    | (with_reducible apply R_ret)
    | (with_reducible apply R_asg)
    | (with_reducible apply R_par2)
    | (with_reducible apply R_par3)
    | (with_reducible apply R_asg2)
    | (with_reducible apply R_expr)
    | (with_reducible apply R_own)
    | (with_reducible apply R_retOwn; rfl)
    | (with_reducible apply R_frz)
    | (with_reducible apply R_retNew)
    | (with_reducible exact R_raise)
    | (with_reducible exact Es_nil)
    | (with_reducible apply Es_cons)
    | (with_reducible apply E_tup)
    | (with_reducible apply E_lst)
    | (with_reducible apply E_bin)
    | (with_reducible apply E_neg)
    | (with_reducible apply E_not)
    | (with_reducible apply E_cmp)
    | (with_reducible apply E_chain)
    | (with_reducible apply E_sub)
    | (with_reducible apply E_slice)
    | (with_reducible apply E_rev)
    | (with_reducible apply E_isa)
    | (with_reducible apply E_bi)
    | (with_reducible apply E_call)
    | (with_reducible exact O_none)
    | (with_reducible apply O_some)
    | (with_reducible exact C_none)
    | (with_reducible apply C_some)
    | (with_reducible apply T_of)
    | (with_reducible apply I_over)
    | (with_reducible apply I_range1)
    | (with_reducible apply I_range2)
    | (with_reducible apply I_enum)
    | (with_reducible exact Ss_nil)
    | (with_reducible exact B_add)
    | (with_reducible exact B_sub)
    | (with_reducible apply B_mul; rotate_left)
    | (simp only [Sxs.app]) | rfl )
  · repeat (first
    | with_reducible exact E_lit
    | (with_reducible apply E_var; rfl)
    | (with_reducible apply R_ret)
    | (with_reducible apply R_asg)
    | (with_reducible apply R_par2)
    | (with_reducible apply R_par3)
    | (with_reducible apply R_asg2)
    | (with_reducible apply R_expr)
    | (with_reducible apply R_own)
    | (with_reducible apply R_retOwn; rfl)
    | (with_reducible apply R_frz)
    | (with_reducible apply R_retNew)
    | (with_reducible exact R_raise)
    | (with_reducible exact Es_nil)
    | (with_reducible apply Es_cons)
    | (with_reducible apply E_tup)
    | (with_reducible apply E_lst)
    | (with_reducible apply E_bin)
    | (with_reducible apply E_neg)
    | (with_reducible apply E_not)
    | (with_reducible apply E_cmp)
    | (with_reducible apply E_chain)
    | (with_reducible apply E_sub)
    | (with_reducible apply E_slice)
    | (with_reducible apply E_rev)
    | (with_reducible apply E_isa)
    | (with_reducible apply E_bi)
    | (with_reducible apply E_call)
    | (with_reducible exact O_none)
    | (with_reducible apply O_some)
    | (with_reducible exact C_none)
    | (with_reducible apply C_some)
    | (with_reducible apply T_of)
    | (with_reducible apply I_over)
    | (with_reducible apply I_range1)
    | (with_reducible apply I_range2)
    | (with_reducible apply I_enum)
    | (with_reducible exact Ss_nil)
    | (with_reducible exact B_add)
    | (with_reducible exact B_sub)
    | (with_reducible apply B_mul; rotate_left)
    | (simp only [Sxs.app]) | rfl | exact e2)
end
/-! ### what stays when a cutting is cut on -/
def tot : List Trg → Rat
  | [] => 0
  | t :: ts => ar t + tot ts
theorem tot_app : ∀ a b : List Trg, tot (a ++ b) = tot a + tot b
  | [], b => by rw [List.nil_append]; show _ = 0 + _; rw [Rat.zero_add]
  | t :: a, b => by
    show ar t + tot (a ++ b) = (ar t + tot a) + tot b
    rw [tot_app a b, Rat.add_assoc]
instance (p : Nat) (t : Trg) : Decidable (Full p t) := by unfold Full Full3; infer_instance
instance (p : Nat) (a b c : Pnt) : Decidable (Full3 p a b c) := by unfold Full3; infer_instance
def fulls (p : Nat) (ts : List Trg) : Nat := ts.countP fun t => decide (Full p t)
theorem fulls_app (p : Nat) (a b : List Trg) : fulls p (a ++ b) = fulls p a + fulls p b := List.countP_append ..
theorem fulls_one (p : Nat) (t : Trg) : fulls p [t] = if Full p t then 1 else 0 := by
  unfold fulls
  by_cases h : Full p t <;> simp [h]
/-- a cutting as it is drawn: all points as handed in, no flat triangle, sizes that come to W, an odd number of full triangles -/
structure Drawn (W : Rat) (Ps : List Nat) (ts : List Trg) : Prop where
  lg : ∀ t ∈ ts, LgT 7 t
  nz : ∀ t ∈ ts, crT t ≠ 0
  sum : tot ts = W
  odd : ∀ p ∈ Ps, PrimeP p → fulls p ts % 2 = 1
theorem split_at {α : Type} {l : List α} {i : Nat} {a : α} (h : l[i]? = some a) : l = l.take i ++ ([a] ++ l.drop (i + 1)) := by
  obtain ⟨hi, e⟩ := List.getElem?_eq_some_iff.mp h
  conv => lhs; rw [← List.take_append_drop i l]
  rw [List.drop_eq_getElem_cons hi, e]; rfl
theorem Drawn.cut {W : Rat} {Ps : List Nat} {ts : List Trg} (d : Drawn W Ps ts) {i : Nat} {t : Trg} (hi : ts[i]? = some t) {c : Nat} {r : Rat} (hr : 0 < r ∧ r < 1) {t0 t1 : Trg} (p0 : Perm3 t0 (cor t c).1 (cor t c).2.1 (mid (cor t c).2.1 (cor t c).2.2 r)) (p1 : Perm3 t1 (cor t c).1 (cor t c).2.2 (mid (cor t c).2.1 (cor t c).2.2 r))
    (ok : (cutAt ts i t0 t1).all tOk = true) : Drawn W Ps (cutAt ts i t0 t1) := by
  have hm := List.mem_of_getElem? hi
  have pt := cor_perm t c
  have hs := split_at hi
  have ne : crossQ (cor t c).1 (cor t c).2.1 (cor t c).2.2 ≠ 0 := fun z => by
    rcases pt.cr with e | e
    · exact d.nz t hm (by rw [e, z])
    · exact d.nz t hm (by rw [e, z]; rfl)
  refine ⟨fun x hx => tok_lg (List.all_eq_true.mp ok x hx), fun x hx => ?_, ?_, fun p hp P => ?_⟩
  · unfold cutAt at hx
    simp only [List.mem_append, List.mem_singleton] at hx
    rcases hx with ((hx | rfl) | hx) | rfl
    · exact d.nz x (List.mem_of_mem_take hx)
    · rcases p0.cr with e | e <;> rw [e]
      · exact cr_mid1 hr.1 ne
      · exact fun z => cr_mid1 hr.1 ne (by have := congrArg (fun q : Rat => -q) z; simpa using this)
    · exact d.nz x (List.mem_of_mem_drop hx)
    · rcases p1.cr with e | e <;> rw [e]
      · exact cr_mid2 hr.2 ne
      · exact fun z => cr_mid2 hr.2 ne (by have := congrArg (fun q : Rat => -q) z; simpa using this)
  · rw [← d.sum]
    conv => rhs; rw [hs]
    unfold cutAt
    rw [tot_app, tot_app, tot_app, tot_app, tot_app]
    have e : ar t0 + ar t1 = ar t := by rw [p0.ar, p1.ar, pt.ar]; exact size_mid hr.1 hr.2
    show ((tot (ts.take i) + (ar t0 + 0)) + tot (ts.drop (i + 1))) + (ar t1 + 0) = tot (ts.take i) + ((ar t + 0) + tot (ts.drop (i + 1)))
    rw [← e]
    grind
  · have h := d.odd p hp P
    rw [hs] at h
    unfold cutAt
    rw [fulls_app, fulls_app, fulls_one] at h
    rw [fulls_app, fulls_app, fulls_app, fulls_one, fulls_one]
    have k0 := p0.full (p := p)
    have k1 := p1.full (p := p)
    have kt := pt.full (p := p)
    by_cases hf : Full3 p (cor t c).1 (cor t c).2.1 (cor t c).2.2
    · rw [if_pos (kt.mpr hf)] at h
      rcases full_mid P (r := r) hf with ⟨h0, h1⟩ | ⟨h0, h1⟩
      · rw [if_pos (k0.mpr h0), if_neg (fun z => h1 (k1.mp z))]; omega
      · rw [if_neg (fun z => h0 (k0.mp z)), if_pos (k1.mpr h1)]; omega
    · rw [if_neg (fun z => hf (kt.mp z))] at h
      have hn := nofull_mid P (r := r) hf
      by_cases h0 : Full3 p (cor t c).1 (cor t c).2.1 (mid (cor t c).2.1 (cor t c).2.2 r)
      · rw [if_pos (k0.mpr h0), if_pos (k1.mpr (hn.mp h0))]; omega
      · rw [if_neg (fun z => h0 (k0.mp z)), if_neg (fun z => h0 (hn.mpr (k1.mp z)))]; omega
theorem Drawn.swap {W : Rat} {Ps : List Nat} {ts : List Trg} (d : Drawn W Ps ts) (k : Nat) : Drawn W Ps (ts.drop k ++ ts.take k) := by
  have mem : ∀ t, t ∈ ts.drop k ++ ts.take k → t ∈ ts := fun t h => by
    rcases List.mem_append.mp h with z | z
    · exact List.mem_of_mem_drop z
    · exact List.mem_of_mem_take z
  refine ⟨fun t h => d.lg t (mem t h), fun t h => d.nz t (mem t h), ?_, fun p hp P => ?_⟩
  · rw [← d.sum, tot_app, Rat.add_comm, ← tot_app, List.take_append_drop]
  · have := d.odd p hp P
    rw [fulls_app, Nat.add_comm, ← fulls_app, List.take_append_drop]
    exact this
/-- the begin of a share -/
def begin1 (s : Rat) : Trg × Trg := (((0, 0), (1, 0), (0, 1)), ((1, 0), (s, 1), (0, 1)))
def begin2 (s : Rat) : Trg × Trg := (((0, 0), (1, 0), (s, 1)), ((0, 0), (s, 1), (0, 1)))
def shQ (s : Int × Int) : Rat := Rat.divInt s.1 s.2
theorem shQ_num : ∀ s ∈ SHL, (shQ s).num = s.1 ∧ ((shQ s).den : Int) = s.2 := by decide +kernel
theorem encF_shQ {s : Int × Int} (h : s ∈ SHL) : encF s = encQ (shQ s) := by
  obtain ⟨h1, h2⟩ := shQ_num s h
  unfold encF encQ
  rw [h1, h2]
def wh (s : Int × Int) : Rat := (1 + shQ s) / 2
theorem shQ_pos : ∀ s ∈ SHL, 0 < shQ s := by decide +kernel
/-- the primes of the weights -/
def PR (s : Int × Int) : List Nat := [2, 3, 5, 7, 13].filter fun p => decide ((s.1 + s.2) % (p : Int) = 0)
theorem prime2 : PrimeP 2 := prime_of (by decide) (by decide)
theorem prime3 : PrimeP 3 := prime_of (by decide) (by decide)
theorem prime5 : PrimeP 5 := prime_of (by decide) (by decide)
theorem prime7 : PrimeP 7 := prime_of (by decide) (by decide)
theorem prime13 : PrimeP 13 := prime_of (by decide) (by decide)
theorem PR_prime {s : Int × Int} {p : Nat} (h : p ∈ PR s) : PrimeP p := by
  have := (List.mem_filter.mp h).1
  simp only [List.mem_cons, List.mem_nil_iff, or_false] at this
  rcases this with rfl | rfl | rfl | rfl | rfl
  · exact prime2
  · exact prime3
  · exact prime5
  · exact prime7
  · exact prime13
theorem ar1 (s : Rat) : ar (begin1 s).1 = 1 / 2 := by
  unfold ar begin1 sizeQ crossQ absQ; grind
theorem ar2 {s : Rat} (h : 0 < s) : ar (begin1 s).2 = s / 2 := by
  unfold ar begin1 sizeQ crossQ absQ; grind
theorem ar3 (s : Rat) : ar (begin2 s).1 = 1 / 2 := by
  unfold ar begin2 sizeQ crossQ absQ; grind
theorem ar4 {s : Rat} (h : 0 < s) : ar (begin2 s).2 = s / 2 := by
  unfold ar begin2 sizeQ crossQ absQ; grind
theorem vQ_one {p : Nat} (hp : 2 ≤ p) : vQ p 1 = 0 := by
  have e : vQ p 1 = (mu p 1 : Int) - mu p 1 := rfl
  rw [e]; omega
theorem PR_nd : ∀ s ∈ SHL, ∀ p ∈ PR s, ¬ p ∣ s.1.natAbs ∧ ¬ p ∣ s.2.natAbs := by decide +kernel
theorem vQ_share {s : Int × Int} (h : s ∈ SHL) {p : Nat} (hp : p ∈ PR s) : vQ p (shQ s) = 0 := by
  obtain ⟨h1, h2⟩ := shQ_num s h
  obtain ⟨k1, k2⟩ := PR_nd s h p hp
  have e2 : (shQ s).den = s.2.natAbs := by omega
  unfold vQ mI
  rw [h1, e2, mu_zero p k1, mu_zero p k2]; rfl
theorem hue_00 (p : Nat) : hueQ p (0, 0) = .a := by simp [hueQ, isB, isC]
theorem hue_10 {p : Nat} (hp : 2 ≤ p) : hueQ p (1, 0) = .b := by simp [hueQ, isB, vQ_one hp]
theorem hue_01 {p : Nat} (hp : 2 ≤ p) : hueQ p (0, 1) = .c := by simp [hueQ, isB, isC, vQ_one hp]
theorem hue_s1 {s : Int × Int} (h : s ∈ SHL) {p : Nat} (hp : p ∈ PR s) : hueQ p (shQ s, 1) = .b := by
  have h0 : shQ s ≠ 0 := by have := shQ_pos s h; grind
  simp [hueQ, isB, vQ_share h hp, vQ_one (PR_prime hp).two, h0]
theorem begins_odd {s : Int × Int} (h : s ∈ SHL) {p : Nat} (hp : p ∈ PR s) : fulls p [(begin1 (shQ s)).1, (begin1 (shQ s)).2] % 2 = 1 ∧ fulls p [(begin2 (shQ s)).1, (begin2 (shQ s)).2] % 2 = 1 := by
  have h2 := (PR_prime hp).two
  have f1 : Full p (begin1 (shQ s)).1 := by simp [Full, Full3, begin1, hue_00, hue_10 h2, hue_01 h2]
  have f2 : ¬ Full p (begin1 (shQ s)).2 := by simp [Full, Full3, begin1, hue_s1 h hp, hue_10 h2, hue_01 h2]
  have f3 : ¬ Full p (begin2 (shQ s)).1 := by simp [Full, Full3, begin2, hue_00, hue_10 h2, hue_s1 h hp]
  have f4 : Full p (begin2 (shQ s)).2 := by simp [Full, Full3, begin2, hue_00, hue_s1 h hp, hue_01 h2]
  have two : ∀ x y : Trg, fulls p [x, y] = fulls p [x] + fulls p [y] := fun x y => fulls_app p [x] [y]
  rw [two, two, fulls_one, fulls_one, fulls_one, fulls_one, if_pos f1, if_neg f2, if_neg f3, if_pos f4]
  exact ⟨rfl, rfl⟩
theorem fulls_perm {p : Nat} {t : Trg} {a b c : Pnt} (h : Perm3 t a b c) : (Full p t ↔ Full p (a, b, c)) := h.full
theorem SHL_small : ∀ s ∈ SHL, s.1.natAbs < 100 ∧ s.2.natAbs < 100 := by decide
/-- two triangles that are those of a begin, their points in order -/
theorem drawn_begin {s : Int × Int} (h : s ∈ SHL) {x y : Trg} (b : Trg × Trg) (hb : b = begin1 (shQ s) ∨ b = begin2 (shQ s)) (hx : Perm3 x b.1.1 b.1.2.1 b.1.2.2) (hy : Perm3 y b.2.1 b.2.2.1 b.2.2.2) : Drawn (wh s) (PR s) [x, y] := by
  have sp := shQ_pos s h
  have ls : Lg 7 (shQ s) := by
    obtain ⟨h1, h2⟩ := shQ_num s h
    have := SHL_small s h
    exact ⟨by omega, by omega⟩
  have l0 : Lg 7 0 := ⟨by decide, by decide⟩
  have l1 : Lg 7 1 := ⟨by decide, by decide⟩
  have ax := hx.ar
  have ay := hy.ar
  have two : ∀ p (x y : Trg), fulls p [x, y] = fulls p [x] + fulls p [y] := fun p x y => fulls_app p [x] [y]
  refine ⟨fun t ht => ?_, fun t ht => ?_, ?_, fun p hp P => ?_⟩
  · simp only [List.mem_cons, List.mem_nil_iff, or_false] at ht
    rcases hb with rfl | rfl <;> rcases ht with rfl | rfl
    · exact LgT.perm hx ⟨l0, l0⟩ ⟨l1, l0⟩ ⟨l0, l1⟩
    · exact LgT.perm hy ⟨l1, l0⟩ ⟨ls, l1⟩ ⟨l0, l1⟩
    · exact LgT.perm hx ⟨l0, l0⟩ ⟨l1, l0⟩ ⟨ls, l1⟩
    · exact LgT.perm hy ⟨l0, l0⟩ ⟨ls, l1⟩ ⟨l0, l1⟩
  · have ne : ∀ {t : Trg} {a b c : Pnt}, Perm3 t a b c → crossQ a b c ≠ 0 → crT t ≠ 0 := fun {t a b c} q z => by
      rcases q.cr with e | e <;> rw [e]
      · exact z
      · exact fun w => z (by have := congrArg (fun q : Rat => -q) w; simpa using this)
    simp only [List.mem_cons, List.mem_nil_iff, or_false] at ht
    rcases hb with rfl | rfl <;> rcases ht with rfl | rfl
    · exact ne hx (by unfold begin1 crossQ; grind)
    · exact ne hy (by unfold begin1 crossQ; grind)
    · exact ne hx (by unfold begin2 crossQ; grind)
    · exact ne hy (by unfold begin2 crossQ; grind)
  · show ar x + (ar y + 0) = wh s
    rw [ax, ay]
    unfold wh
    rcases hb with rfl | rfl
    · have := ar1 (shQ s)
      have := ar2 sp
      unfold ar at *
      grind
    · have := ar3 (shQ s)
      have := ar4 sp
      unfold ar at *
      grind
  · have ho := begins_odd h hp
    rw [two, fulls_one, fulls_one]
    have kx := hx.full (p := p)
    have ky := hy.full (p := p)
    rcases hb with rfl | rfl
    · have := ho.1
      rw [two, fulls_one, fulls_one] at this
      rw [show (if Full p x then 1 else 0) = (if Full p (begin1 (shQ s)).1 then 1 else 0) from by simp only [kx]; rfl, show (if Full p y then 1 else 0) = (if Full p (begin1 (shQ s)).2 then 1 else 0) from by simp only [ky]; rfl]
      exact this
    · have := ho.2
      rw [two, fulls_one, fulls_one] at this
      rw [show (if Full p x then 1 else 0) = (if Full p (begin2 (shQ s)).1 then 1 else 0) from by simp only [kx]; rfl, show (if Full p y then 1 else 0) = (if Full p (begin2 (shQ s)).2 then 1 else 0) from by simp only [ky]; rfl]
      exact this
/-! ### .. in the evaluator -/
section
variable {Φ : Nat → Option FnI} {Λ : Nat → Option LamI} {nm : Names} {n : Nat} {S : Store}
/-- the defs that draw cuttings are there -/
structure DrawDefs (Φ : Nat → Option FnI) : Prop where
  under : Φ 20 = some b__law_under
  some_ : Φ 21 = some b__law_some
  gcd : Φ 24 = some b__law_gcd
  low : Φ 25 = some b__law_low
  sum : Φ 26 = some b__law_sum
  whole : Φ 22 = some b__law_is_whole
  fraction : Φ 27 = some b__law_is_fraction
  point : Φ 28 = some b__law_is_point
  corners : Φ 65 = some b__law_corners
  halved : Φ 73 = some b__law_halved
  reached : Φ 74 = some b__law_reached
  part : Φ 75 = some b__law_part
  begin_ : Φ 76 = some b__law_begin
theorem sp_corners (h : Φ 65 = some b__law_corners) (s : Rat) : callF Φ Λ nm FF4 (n + 1) (.fn 65) [encQ s] S = .ok (.tup [encP (0, 0), encP (1, 0), encP (s, 1), encP (0, 1)]) S := by
  refine call_ret h rfl (R_ret ?_)
  show _ = Rs.ok (D.tup [.tup [.tup [.int 0, .int 1], .tup [.int 0, .int 1]], .tup [.tup [.int 1, .int 1], .tup [.int 0, .int 1]], .tup [encQ s, .tup [.int 1, .int 1]], .tup [.tup [.int 0, .int 1], .tup [.int 1, .int 1]]]) S
  repeat (first
    | with_reducible exact E_lit
    | (with_reducible apply E_var; rfl)
    | (with_reducible apply R_ret)
    | (with_reducible apply R_asg)
    | (with_reducible apply R_par2)
    | (with_reducible apply R_par3)
    | (with_reducible apply R_asg2)
    | (with_reducible apply R_expr)
    | (with_reducible apply R_own)
    | (with_reducible apply R_retOwn; rfl)
    | (with_reducible apply R_frz)
    | (with_reducible apply R_retNew)
    | (with_reducible exact R_raise)
    | (with_reducible exact Es_nil)
    | (with_reducible apply Es_cons)
    | (with_reducible apply E_tup)
    | (with_reducible apply E_lst)
    | (with_reducible apply E_bin)
    | (with_reducible apply E_neg)
    | (with_reducible apply E_not)
    | (with_reducible apply E_cmp)
    | (with_reducible apply E_chain)
    | (with_reducible apply E_sub)
    | (with_reducible apply E_slice)
    | (with_reducible apply E_rev)
    | (with_reducible apply E_isa)
    | (with_reducible apply E_bi)
    | (with_reducible apply E_call)
    | (with_reducible exact O_none)
    | (with_reducible apply O_some)
    | (with_reducible exact C_none)
    | (with_reducible apply C_some)
    | (with_reducible apply T_of)
    | (with_reducible apply I_over)
    | (with_reducible apply I_range1)
    | (with_reducible apply I_range2)
    | (with_reducible apply I_enum)
    | (with_reducible exact Ss_nil)
    | (with_reducible exact B_add)
    | (with_reducible exact B_sub)
    | (with_reducible apply B_mul; rotate_left)
    | (simp only [Sxs.app]) | rfl )
theorem sp_begin (d : DrawDefs Φ) {s : Int × Int} (h : s ∈ SHL) : ∃ x y, callF Φ Λ nm FF4 (n + 2) (.fn 76) [encQ (shQ s)] S = .ok (encC [x, y]) S ∧ Drawn (wh s) (PR s) [x, y] := by
  let ρ : Iv.Env := [.val (encQ (shQ s)), .val (encP (0, 0)), .val (encP (1, 0)), .val (encP (shQ s, 1)), .val (encP (0, 1))]
  obtain ⟨x, hx, e1⟩ := E_sort3 (C := callF Φ Λ nm FF4 (n + 1)) (ρ := ρ) (S := S) (x := .var 1) (y := .var 2) (z := .var 4) (a := (0, 0)) (b := (1, 0)) (c := (0, 1)) (E_var rfl) (E_var rfl) (E_var rfl)
  obtain ⟨y, hy, e2⟩ := E_sort3 (C := callF Φ Λ nm FF4 (n + 1)) (ρ := ρ) (S := S) (x := .var 2) (y := .var 3) (z := .var 4) (a := (1, 0)) (b := (shQ s, 1)) (c := (0, 1)) (E_var rfl) (E_var rfl) (E_var rfl)
  exact ⟨x, y, call_ret d.begin_ rfl (R_asg (S1 := S) (E_call (Es_cons (E_var rfl) Es_nil) (sp_corners d.corners (shQ s))) (ρ1 := ρ) rfl (R_ret (E_tup (Es_cons e1 (Es_cons e2 Es_nil)) rfl))), drawn_begin h _ (.inl rfl) hx hy⟩
abbrev cuB : Sxs := sxB (sxN b__law_cutting.body 3)
theorem cutAt_len {ts : List Trg} {i : Nat} (h : i < ts.length) (x y : Trg) : (cutAt ts i x y).length = ts.length + 1 := by
  unfold cutAt
  simp only [List.length_append, List.length_take, List.length_drop, List.length_cons, List.length_nil]
  omega
theorem cutting_in (d : DrawDefs Φ) {W : Rat} {Ps : List Nat} {m : Nat} (v : Vat m S) {ts : List Trg} (dr : Drawn W Ps ts) (h0 : 0 < ts.length) (hl : ts.length < 90) (a1 a2 a3 a4 a5 a6 a8 a9 a10 : Sl) :
    ∃ ts' b9 S', evSs (callF Φ Λ nm FF4 (n + 5)) nm FF4 cuB [.val (.obj m), a1, a2, a3, a4, a5, a6, .val (encC ts), a8, a9, a10] S = .ok (.next [.val (.obj m), a1, a2, a3, a4, a5, a6, .val (encC ts'), a8, b9, a10]) S' ∧ Drawn W Ps ts' ∧ 0 < ts'.length ∧ ts'.length ≤ ts.length + 1 ∧ VS m S S' := by
  obtain ⟨i, S1, e1, i0, i1, v1⟩ := sp_under (Λ := Λ) (nm := nm) (F := FF4) (n := n + 4) d.under v (k := (ts.length : Int)) (by omega) (by omega)
  obtain ⟨c, S2, e2, c0, c1, v2⟩ := sp_under (Λ := Λ) (nm := nm) (F := FF4) (n := n + 4) d.under v1.vat (k := 3) (by decide) (by decide)
  obtain ⟨r, S3, e3, hr, lr, v3⟩ := sp_part (Λ := Λ) (nm := nm) (n := n + 2) d.under d.some_ d.gcd d.low d.part v2.vat
  obtain ⟨t, ht⟩ : ∃ t, ts[i.toNat]? = some t := ⟨ts[i.toNat]'(by omega), List.getElem?_eq_getElem (by omega)⟩
  obtain ⟨cn, rfl⟩ : ∃ cn : Nat, c = cn := ⟨c.toNat, by omega⟩
  obtain ⟨t0, t1, p0, p1, e4⟩ := sp_halved (Λ := Λ) (nm := nm) (n := n + 1) (S := S3) d.gcd d.low d.sum d.halved (ts := ts) (i := i) (c := cn) (t := t) i0 ht (by omega) (by omega) (dr.lg t (List.mem_of_getElem? ht)) (r := r) (lr.mono (by decide))
  have hlen := cutAt_len (ts := ts) (i := i.toNat) (by omega) t0 t1
  -- all points of it are of few figures
  have lt := (dr.lg t (List.mem_of_getElem? ht)).cor cn
  have lm : LgP 30 (mid (cor t cn).2.1 (cor t cn).2.2 r) := by
    have key : ∀ {x y : Rat}, Lg 7 x → Lg 7 y → Lg 30 (x + (y - x) * r) := fun {x y} hx hy => (lg_add hx (lg_mul (lg_sub hy hx) lr)).mono (by decide)
    exact ⟨key lt.2.1.1 lt.2.2.1, key lt.2.1.2 lt.2.2.2⟩
  have up : ∀ {p : Pnt}, LgP 7 p → LgP 30 p := fun h => ⟨h.1.mono (by decide), h.2.mono (by decide)⟩
  have lall : ∀ x ∈ cutAt ts i.toNat t0 t1, LgT 30 x := fun x hx => by
    unfold cutAt at hx
    simp only [List.mem_append, List.mem_singleton] at hx
    have old : ∀ y ∈ ts, LgT 30 y := fun y hy => ⟨up (dr.lg y hy).1, up (dr.lg y hy).2.1, up (dr.lg y hy).2.2⟩
    rcases hx with ((hx | rfl) | hx) | rfl
    · exact old x (List.mem_of_mem_take hx)
    · exact LgT.perm p0 (up lt.1) (up lt.2.1) lm
    · exact old x (List.mem_of_mem_drop hx)
    · exact LgT.perm p1 (up lt.1) (up lt.2.2) lm
  have e5 := sp_reached (Λ := Λ) (nm := nm) (n := n + 1) (S := S3) d.whole d.gcd d.fraction d.point d.reached lall (by decide) (by omega)
  have first : evE (callF Φ Λ nm FF4 (n + 5)) (.call 73 (.cons (.var 7) (.cons (.call 20 (.cons (.var 0) (.cons (.bi .len (.cons (.var 7) .nil)) .nil))) (.cons (.call 20 (.cons (.var 0) (.cons (.lit (.int 3)) .nil))) (.cons (.call 75 (.cons (.var 0) .nil)) .nil))))) [.val (.obj m), a1, a2, a3, a4, a5, a6, .val (encC ts), a8, a9, a10] S = .ok (encC (cutAt ts i.toNat t0 t1)) S3 := by
    refine E_call (S1 := S3) (ds := [encC ts, .int i, .int cn, encQ r]) (Es_cons (E_var rfl) (Es_cons (S1 := S1) (E_call (ds := [.obj m, .int (ts.length : Int)]) (Es_cons (E_var rfl) (Es_cons (E_bi (Es_cons (E_var rfl) Es_nil) ?_) Es_nil)) e1) (Es_cons (S1 := S2) (E_call (Es_cons (E_var rfl) (Es_cons E_lit Es_nil)) e2) (Es_cons (E_call (Es_cons (E_var rfl) Es_nil) e3) Es_nil)))) e4
    show some (D.int ((ts.map encT).length : Int)) = _
    rw [List.length_map]
  by_cases hok : (cutAt ts i.toNat t0 t1).all tOk = true
  · refine ⟨cutAt ts i.toNat t0 t1, .val (encC (cutAt ts i.toNat t0 t1)), S3, ?_, dr.cut ht hr p0 p1 hok, by omega, by omega, (v1.trans v2).trans v3⟩
    rw [hok] at e5
    exact R_asg (S1 := S3) (ρ1 := [.val (.obj m), a1, a2, a3, a4, a5, a6, .val (encC ts), a8, .val (encC (cutAt ts i.toNat t0 t1)), a10]) first rfl (R_asg (S1 := S3) (E_ite_t (x := .bl true) (E_call (Es_cons (E_var rfl) Es_nil) e5) rfl (E_var rfl)) rfl Ss_nil)
  · refine ⟨ts, .val (encC (cutAt ts i.toNat t0 t1)), S3, ?_, dr, h0, by omega, (v1.trans v2).trans v3⟩
    rw [Bool.not_eq_true] at hok
    rw [hok] at e5
    exact R_asg (S1 := S3) (ρ1 := [.val (.obj m), a1, a2, a3, a4, a5, a6, .val (encC ts), a8, .val (encC (cutAt ts i.toNat t0 t1)), a10]) first rfl (R_asg (S1 := S3) (E_ite_f (x := .bl false) (E_call (Es_cons (E_var rfl) Es_nil) e5) rfl (E_var rfl)) rfl Ss_nil)
theorem rng0 {k : Int} (h0 : 0 ≤ k) (h1 : k < 1000) : rng 0 k = some ((List.range k.toNat).map fun (i : Nat) => D.int (0 + (i : Int))) := by
  unfold rng
  rw [if_pos (by
    rw [Bool.and_eq_true, Bool.and_eq_true, Bool.and_eq_true]
    exact ⟨⟨⟨by decide, by decide⟩, decide_eq_true (by omega)⟩, decide_eq_true (by omega)⟩), Int.sub_zero]
/-- a drawn cutting -/
theorem sp_cutting (d : DrawDefs Φ) (hc : Φ 77 = some b__law_cutting) {m : Nat} (v : Vat m S) {s : Int × Int} (hs : s ∈ SHL) {most : Int} (hm : 2 ≤ most) (hm2 : most ≤ 24) :
    ∃ ts S', callF Φ Λ nm FF4 (n + 6) (.fn 77) [.obj m, encF s, .int most] S = .ok (encC ts) S' ∧ Drawn (wh s) (PR s) ts ∧ 0 < ts.length ∧ (ts.length : Int) ≤ most ∧ VS m S S' := by
  rw [encF_shQ hs]
  obtain ⟨x, y, eb, db⟩ := sp_begin (Λ := Λ) (nm := nm) (n := n + 3) (S := S) d hs
  obtain ⟨u, S1, e1, u0, u1, v1⟩ := sp_under (Λ := Λ) (nm := nm) (F := FF4) (n := n + 4) d.under v (k := 3) (by decide) (by decide)
  obtain ⟨k, S2, e2, k0, k1, v2⟩ := sp_under (Λ := Λ) (nm := nm) (F := FF4) (n := n + 4) d.under v1.vat (k := most - 1) (by omega) (by omega)
  -- the begin that is taken
  obtain ⟨z, w, dz, hb⟩ : ∃ z w, Drawn (wh s) (PR s) [z, w] ∧ ∀ (ss : Sxs) (r : Rs Ou), evSs (callF Φ Λ nm FF4 (n + 5)) nm FF4 ss [.val (.obj m), .val (encQ (shQ s)), .val (.int most), .val (encP (0, 0)), .val (encP (1, 0)), .val (encP (shQ s, 1)), .val (encP (0, 1)), .val (encC [z, w]), .none, .none, .none] S1 = r →
      evSs (callF Φ Λ nm FF4 (n + 5)) nm FF4 (.cons (sxN b__law_cutting.body 2) ss) [.val (.obj m), .val (encQ (shQ s)), .val (.int most), .val (encP (0, 0)), .val (encP (1, 0)), .val (encP (shQ s, 1)), .val (encP (0, 1)), .val (encC [x, y]), .none, .none, .none] S = r := by
    have hcnd : ∀ k : Bool, k = decide (u = 0) → evT (callF Φ Λ nm FF4 (n + 5)) (.cmp .eq (.call 20 (.cons (.var 0) (.cons (.lit (.int 3)) .nil))) (.lit (.int 0))) [.val (.obj m), .val (encQ (shQ s)), .val (.int most), .val (encP (0, 0)), .val (encP (1, 0)), .val (encP (shQ s, 1)), .val (encP (0, 1)), .val (encC [x, y]), .none, .none, .none] S = .ok k S1 := fun k hk => by
      rw [hk]
      exact T_of (E_cmp (E_call (Es_cons (E_var rfl) (Es_cons E_lit Es_nil)) e1) E_lit (c_eq_int u 0)) rfl
    by_cases hu : u = 0
    · let ρ : Iv.Env := [.val (.obj m), .val (encQ (shQ s)), .val (.int most), .val (encP (0, 0)), .val (encP (1, 0)), .val (encP (shQ s, 1)), .val (encP (0, 1)), .val (encC [x, y]), .none, .none, .none]
      obtain ⟨z, hz, ez⟩ := E_sort3 (C := callF Φ Λ nm FF4 (n + 5)) (ρ := ρ) (S := S1) (x := .var 3) (y := .var 4) (z := .var 5) (a := (0, 0)) (b := (1, 0)) (c := (shQ s, 1)) (E_var rfl) (E_var rfl) (E_var rfl)
      obtain ⟨w, hw, ew⟩ := E_sort3 (C := callF Φ Λ nm FF4 (n + 5)) (ρ := ρ) (S := S1) (x := .var 3) (y := .var 5) (z := .var 6) (a := (0, 0)) (b := (shQ s, 1)) (c := (0, 1)) (E_var rfl) (E_var rfl) (E_var rfl)
      refine ⟨z, w, drawn_begin hs _ (.inr rfl) hz hw, fun ss r hr => ?_⟩
      refine R_ite_t (hcnd true (by rw [decide_eq_true hu])) rfl ?_
      simp only [Sxs.app]
      exact R_asg (S1 := S1) (E_tup (Es_cons ez (Es_cons ew Es_nil)) rfl) rfl hr
    · exact ⟨x, y, db, fun ss r hr => R_ite_f (hcnd false (by rw [decide_eq_false hu])) rfl hr⟩
  obtain ⟨ρ', S', e, hI⟩ := for_inv (b := evSs (callF Φ Λ nm FF4 (n + 5)) nm FF4 cuB) (p := .nm 8) (fun i ρ S' => VS m S S' ∧ ∃ ts a8 a9, Drawn (wh s) (PR s) ts ∧ 0 < ts.length ∧ ts.length ≤ 2 + i ∧ ρ = [.val (.obj m), .val (encQ (shQ s)), .val (.int most), .val (encP (0, 0)), .val (encP (1, 0)), .val (encP (shQ s, 1)), .val (encP (0, 1)), .val (encC ts), a8, a9, .none])
    (xs := (List.range k.toNat).map fun (i : Nat) => D.int (0 + (i : Int))) (i := 0) (ρ := [.val (.obj m), .val (encQ (shQ s)), .val (.int most), .val (encP (0, 0)), .val (encP (1, 0)), .val (encP (shQ s, 1)), .val (encP (0, 1)), .val (encC [z, w]), .none, .none, .none]) (S := S2) (fun j q ρ S' hx hI => by
      obtain ⟨vs, ts, a8, a9, dr, h0, hl, rfl⟩ := hI
      have hj : j < k.toNat := by
        have := (List.getElem?_eq_some_iff.mp hx).1
        simpa using this
      obtain ⟨ts', b9, S4, e4, dr', h0', hl', v4⟩ := cutting_in (Λ := Λ) (nm := nm) (n := n) d vs.vat dr h0 (by omega) (.val (encQ (shQ s))) (.val (.int most)) (.val (encP (0, 0))) (.val (encP (1, 0))) (.val (encP (shQ s, 1))) (.val (encP (0, 1))) (.val q) a9 .none
      exact ⟨_, _, S4, rfl, e4, vs.trans v4, ts', _, _, dr', h0', by omega, rfl⟩) ⟨v1.trans v2, _, _, _, dz, by simp, by simp, rfl⟩
  obtain ⟨vs, ts, a8, a9, dr, h0, hl, rfl⟩ := hI
  have hl2 : (ts.length : Int) ≤ most := by
    simp only [List.length_map, List.length_range] at hl
    omega
  obtain ⟨g, S5, e5, g0, g1, v5⟩ := sp_under (Λ := Λ) (nm := nm) (F := FF4) (n := n + 4) d.under vs.vat (k := (ts.length : Int)) (by omega) (by omega)
  refine ⟨ts.drop g.toNat ++ ts.take g.toNat, S5, ?_, dr.swap g.toNat, ?_, ?_, vs.trans v5⟩
  · refine call_ret hc rfl (R_asg (S1 := S) (ρ1 := [.val (.obj m), .val (encQ (shQ s)), .val (.int most), .val (encP (0, 0)), .val (encP (1, 0)), .val (encP (shQ s, 1)), .val (encP (0, 1)), .none, .none, .none, .none]) (E_call (Es_cons (E_var rfl) Es_nil) (sp_corners d.corners (shQ s))) rfl
      (R_asg (S1 := S) (ρ1 := [.val (.obj m), .val (encQ (shQ s)), .val (.int most), .val (encP (0, 0)), .val (encP (1, 0)), .val (encP (shQ s, 1)), .val (encP (0, 1)), .val (encC [x, y]), .none, .none, .none]) (E_call (Es_cons (E_var rfl) Es_nil) eb) rfl
      (hb _ _ (R_for (I_range1 (i := k) (E_call (ds := [.obj m, .int (most - 1)]) (S1 := S1) (Es_cons (E_var rfl) (Es_cons (E_bi (ds := [.int 1, .int (most - 1)]) (Es_cons E_lit (Es_cons (E_bin (E_var rfl) E_lit rfl) Es_nil)) ?_) Es_nil)) e2) (rng0 k0 (by omega))) e
      (R_asg (d := .int g) (S1 := S5) (ρ1 := [.val (.obj m), .val (encQ (shQ s)), .val (.int most), .val (encP (0, 0)), .val (encP (1, 0)), .val (encP (shQ s, 1)), .val (encP (0, 1)), .val (encC ts), a8, a9, .val (.int g)]) (E_call (ds := [.obj m, .int (ts.length : Int)]) (S1 := S') (Es_cons (E_var rfl) (Es_cons (E_bi (Es_cons (E_var rfl) Es_nil) ?_) Es_nil)) e5) rfl (R_ret ?_))))))
    · show some (D.int (if most - 1 > 1 then most - 1 else 1)) = _
      congr 2
      split <;> omega
    · show some (D.int ((ts.map encT).length : Int)) = _
      rw [List.length_map]
    · have s1 : sliceO (encC ts) (some g) none = some (.tup ((ts.map encT).drop g.toNat)) := by
        show some (D.tup (cut (ts.map encT) (some g) none)) = _
        rw [cut_from _ g0]
      have s2 : sliceO (encC ts) none (some g) = some (.tup ((ts.map encT).take g.toNat)) := by
        show some (D.tup (cut (ts.map encT) none (some g))) = _
        rw [cut_to _ g0]
      have e : encC (ts.drop g.toNat ++ ts.take g.toNat) = .tup ((ts.map encT).drop g.toNat ++ (ts.map encT).take g.toNat) := by
        unfold encC
        simp [List.map_take, List.map_drop]
      rw [e]
      exact E_bin (S1 := S5) (E_slice (E_var rfl) (O_some (E_var rfl)) O_none s1) (E_slice (E_var rfl) O_none (O_some (E_var rfl)) s2) (add_tup (by simp only [List.length_take, List.length_drop, List.length_map]; omega))
  · simp only [List.length_append, List.length_take, List.length_drop]; omega
  · simp only [List.length_append, List.length_take, List.length_drop]; omega
end
end Iv
/-! MT: how often a prime stands in a number, by the loops; sums of fractions; loops that return. -/
namespace Iv
open PySem Sh
/-! ### loops -/
section
variable {S : Store}
theorem forLoop_ret {p : Pt} {b : Iv.Env → Store → Rs Ou} {x d : D} {xs : List D} {ρ ρ1 : Iv.Env} {S1 : Store} (h : p.put x ρ = some ρ1) (h2 : b ρ1 S = .ok (.ret d) S1) : forLoop p b (x :: xs) ρ S = .ok (.ret d) S1 := by
  rw [forLoop, h]; show Rs.bind (b ρ1 S) _ = _; rw [h2]; rfl
/-- a loop that returns the first one for which q holds -/
theorem for_find (q : Nat → Bool) {b : Iv.Env → Store → Rs Ou} {p : Pt} (st : Sl → Sl → Iv.Env) (hp : ∀ a c x, p.put x (st a c) = some (st (.val x) c)) : ∀ (L : List Nat), (∀ x ∈ L, ∀ c, ∃ c', b (st (.val (.int x)) c) S = if q x then .ok (.ret (.int x)) S else .ok (.next (st (.val (.int x)) c')) S) →
    ∀ a c, ∃ a' c', forLoop p b (L.map fun (x : Nat) => D.int (x : Int)) (st a c) S = match L.find? q with | some x => .ok (.ret (.int x)) S | none => .ok (.next (st a' c')) S
  | [], _, a, c => ⟨a, c, rfl⟩
  | x :: L, h, a, c => by
    obtain ⟨c', e⟩ := h x (by simp) c
    rw [List.map_cons, List.find?_cons]
    cases hq : q x with
    | true =>
      rw [hq] at e
      exact ⟨a, c, forLoop_ret (hp _ _ _) e⟩
    | false =>
      rw [hq] at e
      obtain ⟨a2, c2, e2⟩ := for_find q st hp L (fun y hy => h y (List.mem_cons_of_mem _ hy)) (.val (.int x)) c'
      exact ⟨a2, c2, forLoop_cons (hp _ _ _) e e2⟩
/-- a comprehension whose elements are drawn -/
theorem compLoop_drawn {p : Pt} {ρ : Iv.Env} {f : Iv.Env → Store → Rs (Option D)} (I : Store → Prop) (T : Store → Store → Prop) (tr : ∀ {a b c}, T a b → T b c → T a c) (rf : ∀ {a}, I a → T a a) (Q : D → Prop) :
    ∀ (xs : List D) (S : Store), I S → (∀ x ∈ xs, ∀ S, I S → ∃ ρ1 d S1, p.put x ρ = some ρ1 ∧ f ρ1 S = .ok (some d) S1 ∧ Q d ∧ I S1 ∧ T S S1) → ∃ ds S', compLoop p ρ f xs S = .ok ds S' ∧ ds.length = xs.length ∧ (∀ d ∈ ds, Q d) ∧ I S' ∧ T S S'
  | [], S, hI, _ => ⟨[], S, rfl, rfl, fun d h => by simp at h, hI, rf hI⟩
  | x :: xs, S, hI, h => by
    obtain ⟨ρ1, d, S1, h1, h2, hd, hI1, t1⟩ := h x (by simp) S hI
    obtain ⟨ds, S2, e, hl, hQ, hI2, t2⟩ := compLoop_drawn I T tr rf Q xs S1 hI1 fun y hy => h y (List.mem_cons_of_mem _ hy)
    refine ⟨d :: ds, S2, ?_, by rw [List.length_cons, List.length_cons, hl], fun y hy => ?_, hI2, tr t1 t2⟩
    · rw [compLoop, h1]
      show (match f ρ1 S with | Rs.ok (some d) S1 => (match compLoop p ρ f xs S1 with | Rs.ok ds S2 => Rs.ok (d :: ds) S2 | _ => .bad) | Rs.ok none S1 => compLoop p ρ f xs S1 | _ => .bad) = _
      rw [h2]
      show (match compLoop p ρ f xs S1 with | Rs.ok ds S2 => Rs.ok (d :: ds) S2 | _ => .bad) = _
      rw [e]
    · rcases List.mem_cons.mp hy with rfl | hy
      · exact hd
      · exact hQ y hy
end
theorem boolsL_map {α : Type} (q : α → Bool) : ∀ l : List α, boolL (l.map fun a => D.bl (q a)) = some (l.map q)
  | [] => rfl
  | a :: l => by rw [List.map_cons, boolL, boolsL_map q l]; rfl
theorem all_map {α : Type} (q : α → Bool) (l : List α) : biO .all [.lst (l.map fun a => D.bl (q a))] = some (.bl (l.all q)) := by
  show (boolL _).map _ = _
  rw [boolsL_map]
  simp [List.all_map, Function.comp_def]
/-! ### how often -/
theorem dvd_fmod {x : Int} {p : Nat} (hp : 2 ≤ p) : (x.fmod p = 0) ↔ p ∣ x.natAbs := by
  rw [← Int.dvd_iff_fmod_eq_zero, Int.ofNat_dvd_left]
theorem mI_step {p : Nat} (hp : 2 ≤ p) {x : Int} (hx : x ≠ 0) (h : x.fmod p = 0) : x.fdiv p ≠ 0 ∧ (x.fdiv p).natAbs < x.natAbs ∧ mI p x = mI p (x.fdiv p) + 1 := by
  have e : x = (p : Int) * x.fdiv p := by
    have := Int.fmod_add_mul_fdiv x p
    omega
  generalize x.fdiv p = y at *
  have hy : y ≠ 0 := fun z => hx (by rw [e, z]; simp)
  have e2 : x.natAbs = p * y.natAbs := by rw [e, Int.natAbs_mul, Int.natAbs_natCast]
  refine ⟨hy, ?_, ?_⟩
  · have := Nat.mul_le_mul_right y.natAbs hp
    omega
  · unfold mI
    rw [e2, mu_step hp (by omega)]
section
variable {Φ : Nat → Option FnI} {Λ : Nat → Option LamI} {nm : Names} {n : Nat} {S : Store}
theorem mu_loop {p : Nat} (hp : 2 ≤ p) {st : Int → Int → Iv.Env} {c : Iv.Env → Store → Rs Bool} {b : Iv.Env → Store → Rs Ou} (sg : Int) (hc : ∀ x k, c (st x k) S = .ok (decide (x.fmod p = 0)) S) (hb : ∀ x k, b (st x k) S = .ok (.next (st (x.fdiv p) (k + sg))) S) :
    ∀ (m : Nat) (x k : Int), x ≠ 0 → x.natAbs < m → ∃ y, whileLoop c b m (st x k) S = .ok (.next (st y (k + sg * (mI p x : Int)))) S
  | 0, x, k, _, h => absurd h (Nat.not_lt_zero _)
  | m + 1, x, k, hx, h => by
    by_cases hz : x.fmod p = 0
    · obtain ⟨h1, h2, h3⟩ := mI_step hp hx hz
      obtain ⟨y, e⟩ := mu_loop hp sg hc hb m (x.fdiv p) (k + sg) h1 (by omega)
      refine ⟨y, while_go (by rw [hc, decide_eq_true hz]) (hb x k) ?_⟩
      rw [e, h3]
      congr 3
      push_cast
      rw [Int.mul_add, Int.mul_one]
      omega
    · refine ⟨x, ?_⟩
      have h0 : mI p x = 0 := mu_zero p fun z => hz ((dvd_fmod hp).mpr z)
      rw [h0, while_stop (by rw [hc, decide_eq_false hz])]
      simp
theorem pr_fdiv {x : Int} {p : Nat} (hp : 2 ≤ p) (h2 : p < 1000) : binO .fdiv (.int x) (.int (p : Int)) = some (.int (x.fdiv p)) := fdiv_ok (by omega) (by omega)
theorem sp_divides (h : Φ 10 = some b_divides) {p : Nat} (hp : 2 ≤ p) (hp2 : p < 1000) {x : Int} (hx : x ≠ 0) {k : Nat} (hk : x.natAbs < 10 ^ k) (hk2 : k ≤ 2000) : callF Φ Λ nm FF4 (n + 1) (.fn 10) [.int p, .int x] S = .ok (.int (mI p x)) S := by
  obtain ⟨y, e⟩ := mu_loop (S := S) hp (st := fun x k => [.val (.int p), .val (.int x), .val (.int k)]) (c := evT (callF Φ Λ nm FF4 n) (.cmp .eq (.bin .mod (.var 1) (.var 0)) (.lit (.int 0)))) (b := evSs (callF Φ Λ nm FF4 n) nm FF4 (.cons (.par2 1 2 (.bin .fdiv (.var 1) (.var 0)) (.bin .add (.var 2) (.lit (.int 1)))) .nil)) 1
    (fun x k => T_of (x := .bl (decide (x.fmod p = 0))) (E_cmp (S1 := S) (E_bin (S1 := S) (E_var rfl) (E_var rfl) (B_mod (by omega))) E_lit (c_eq_int _ _)) rfl)
    (fun x k => R_par2 (S1 := S) (S2 := S) (E_bin (E_var rfl) (E_var rfl) (pr_fdiv hp hp2)) (E_bin (E_var rfl) E_lit rfl) Ss_nil) FF4 x 0 hx (fig_FF hk hk2)
  refine call_ret h rfl (R_asg (S1 := S) (ρ1 := [.val (.int p), .val (.int x), .val (.int 0)]) E_lit rfl (R_while e (R_ret (E_var ?_))))
  show some (D.int (0 + 1 * (mI p x : Int))) = _
  congr 2
  omega
theorem sp_times_in (hd : Φ 10 = some b_divides) (h : Φ 11 = some b_times_in) {p : Nat} (hp : 2 ≤ p) (hp2 : p < 1000) {q : Rat} (hq : q ≠ 0) {k : Nat} (hk : Lg k q) (hk2 : k ≤ 2000) : callF Φ Λ nm FF4 (n + 2) (.fn 11) [.int p, encQ q] S = .ok (.int (vQ p q)) S := by
  have hn := num_ne hq
  have hd0 := den_pos q
  refine call_ret h rfl (R_ite_f (S1 := S) (k := false) (T_of (x := .bl (decide (q.num = 0))) (E_cmp (E_sub (E_var rfl) E_lit rfl) E_lit (c_eq_int _ _)) (by rw [decide_eq_false hn]; rfl)) rfl (R_ret (E_bin (x := .int (mI p q.num)) (y := .int (mI p (q.den : Int))) (S1 := S) (E_call (Es_cons (E_var rfl) (Es_cons (E_sub (E_var rfl) E_lit rfl) Es_nil)) (sp_divides hd hp hp2 hn hk.1 hk2)) (E_call (Es_cons (E_var rfl) (Es_cons (E_sub (E_var rfl) E_lit rfl) Es_nil)) (sp_divides hd hp hp2 (by omega) (by rw [Int.natAbs_natCast]; exact hk.2) hk2)) ?_)))
  show some (D.int ((mI p q.num : Int) - (mI p (q.den : Int) : Int))) = _
  unfold vQ mI
  rw [Int.natAbs_natCast]
theorem sp_law_times (h : Φ 32 = some b__law_times) {p : Nat} (hp : 2 ≤ p) (hp2 : p < 1000) {q : Rat} (hq : q ≠ 0) {k : Nat} (hk : Lg k q) (hk2 : k ≤ 2000) : callF Φ Λ nm FF4 (n + 1) (.fn 32) [.int p, encQ q] S = .ok (.int (vQ p q)) S := by
  have hn := num_ne hq
  have hd0 := den_pos q
  obtain ⟨y, e⟩ := mu_loop (S := S) hp (st := fun x k => [.val (.int p), .val (encQ q), .val (.int k), .val (.int x), .val (.int q.den)]) (c := evT (callF Φ Λ nm FF4 n) (.cmp .eq (.bin .mod (.var 3) (.var 0)) (.lit (.int 0)))) (b := evSs (callF Φ Λ nm FF4 n) nm FF4 (.cons (.par2 3 2 (.bin .fdiv (.var 3) (.var 0)) (.bin .add (.var 2) (.lit (.int 1)))) .nil)) 1
    (fun x k => T_of (x := .bl (decide (x.fmod p = 0))) (E_cmp (S1 := S) (E_bin (S1 := S) (E_var rfl) (E_var rfl) (B_mod (by omega))) E_lit (c_eq_int _ _)) rfl)
    (fun x k => R_par2 (S1 := S) (S2 := S) (E_bin (E_var rfl) (E_var rfl) (pr_fdiv hp hp2)) (E_bin (E_var rfl) E_lit rfl) Ss_nil) FF4 q.num 0 hn (fig_FF hk.1 hk2)
  obtain ⟨y2, e2⟩ := mu_loop (S := S) hp (st := fun x k => [.val (.int p), .val (encQ q), .val (.int k), .val (.int y), .val (.int x)]) (c := evT (callF Φ Λ nm FF4 n) (.cmp .eq (.bin .mod (.var 4) (.var 0)) (.lit (.int 0)))) (b := evSs (callF Φ Λ nm FF4 n) nm FF4 (.cons (.par2 4 2 (.bin .fdiv (.var 4) (.var 0)) (.bin .sub (.var 2) (.lit (.int 1)))) .nil)) (-1)
    (fun x k => T_of (x := .bl (decide (x.fmod p = 0))) (E_cmp (S1 := S) (E_bin (S1 := S) (E_var rfl) (E_var rfl) (B_mod (by omega))) E_lit (c_eq_int _ _)) rfl)
    (fun x k => R_par2 (S1 := S) (S2 := S) (E_bin (E_var rfl) (E_var rfl) (pr_fdiv hp hp2)) (E_bin (E_var rfl) E_lit rfl) Ss_nil) FF4 (q.den : Int) (0 + 1 * (mI p q.num : Int)) (by omega) (fig_FF (k := k) (by rw [Int.natAbs_natCast]; exact hk.2) hk2)
  refine call_ret h rfl (R_asg (d := .tup [.int 0, encQ q]) (S1 := S) (ρ1 := [.val (.int p), .val (encQ q), .val (.int 0), .val (.int q.num), .val (.int q.den)]) (E_tup (Es_cons E_lit (Es_cons (E_var rfl) Es_nil)) rfl) rfl (R_while e (R_while e2 (R_ret (E_var ?_)))))
  show some (D.int (0 + 1 * (mI p q.num : Int) + -1 * (mI p (q.den : Int) : Int))) = _
  have : mI p (q.den : Int) = mu p q.den := by unfold mI; rw [Int.natAbs_natCast]
  unfold vQ
  congr 2
  omega
/-! ### fractions, in the program -/
theorem sp_is_fraction (hw : Φ 1 = some b_is_whole) (hc : Φ 0 = some b_common_of) (h : Φ 2 = some b_is_fraction) {q : Rat} (hq : qOk q = true) : callF Φ Λ nm FF4 (n + 2) (.fn 2) [encQ q] S = .ok (.bl true) S := by
  have lg := ok_lg hq
  have hd := den_pos q
  simp only [qOk, Bool.and_eq_true, decide_eq_true_eq] at hq
  have hw1 := sp_is_whole (Φ := Φ) (Λ := Λ) (nm := nm) (F := FF4) (n := n) (S := S) hw (q.den : Int) 1 1000000
  have hw2 := sp_is_whole (Φ := Φ) (Λ := Λ) (nm := nm) (F := FF4) (n := n) (S := S) hw q.num (-1000000) 1000000
  rw [decide_eq_true (by omega), decide_eq_true (by omega)] at hw1 hw2
  have hg := sp_common_of (Φ := Φ) (Λ := Λ) (nm := nm) (F := FF4) (n := n) (S := S) hc q.num q.den (den_FF lg (by decide))
  rw [gcd_q] at hg
  refine call_ret h rfl (R_ite_f (S1 := S) (k := false) (T_of (x := .bl false) (E_or_f (x := .bl false) (S1 := S) (E_not (k := true) (E_isa (E_var rfl) rfl) rfl) rfl (E_cmp (E_bi (Es_cons (E_var rfl) Es_nil) rfl) E_lit (c_ne_int 2 2))) rfl) rfl
    (R_ite_f (S1 := S) (k := false) (T_of (x := .bl false) (E_or_f (x := .bl false) (S1 := S) (E_not (k := true) (x := .bl true) (E_call (S1 := S) (ds := [.int q.num, .int (-1000000), .int 1000000]) (Es_cons (E_sub (E_var rfl) E_lit rfl) (Es_cons (E_neg E_lit) (Es_cons E_lit Es_nil))) hw2) rfl) rfl
      (E_not (k := true) (x := .bl true) (E_call (S1 := S) (ds := [.int q.den, .int 1, .int 1000000]) (Es_cons (E_sub (E_var rfl) E_lit rfl) (Es_cons E_lit (Es_cons E_lit Es_nil))) hw1) rfl)) rfl) rfl
    (R_ret (E_cmp (x := .int 1) (S1 := S) (E_call (Es_cons (E_sub (E_var rfl) E_lit rfl) (Es_cons (E_sub (E_var rfl) E_lit rfl) Es_nil)) hg) E_lit (c_eq_int 1 1)))))
theorem add_divInt (x y : Rat) : Rat.divInt (x.num * y.den + y.num * x.den) (x.den * y.den) = x + y := by
  conv => rhs; rw [← Rat.num_divInt_den x, ← Rat.num_divInt_den y]
  have dx := x.den_nz
  have dy := y.den_nz
  rw [Rat.divInt_add_divInt _ _ (by omega) (by omega)]
theorem sp_plus (hc : Φ 0 = some b_common_of) (hl : Φ 4 = some b_low_points) (h : Φ 43 = some b_plus) {x y : Rat} {j k : Nat} (hx : Lg j x) (hy : Lg k y) (hj : j ≤ 900) (hk : k ≤ 900) : callF Φ Λ nm FF4 (n + 3) (.fn 43) [encQ x, encQ y] S = .ok (encQ (x + y)) S := by
  have dx := den_pos x
  have dy := den_pos y
  have hd : (x.den * y.den : Int) ≠ 0 := by
    have := Int.mul_pos dx dy
    omega
  have nx : ((x.den : Int)).natAbs < 10 ^ j := by rw [Int.natAbs_natCast]; exact hx.2
  have ny : ((y.den : Int)).natAbs < 10 ^ k := by rw [Int.natAbs_natCast]; exact hy.2
  have e := sp_low (Φ := Φ) (Λ := Λ) (nm := nm) (n := n) (S := S) hc hl (t := x.num * y.den + y.num * x.den) (b := x.den * y.den) hd (mul_fig nx ny) (by omega)
  rw [add_divInt] at e
  refine call_ret h rfl (R_ret (E_call (S1 := S) ?_ e))
  repeat (first
    | with_reducible exact E_lit
    | (with_reducible apply E_var; rfl)
    | (with_reducible apply R_ret)
    | (with_reducible apply R_asg)
    | (with_reducible apply R_par2)
    | (with_reducible apply R_par3)
    | (with_reducible apply R_asg2)
    | (with_reducible apply R_expr)
    | (with_reducible apply R_own)
    | (with_reducible apply R_retOwn; rfl)
    | (with_reducible apply R_frz)
    | (with_reducible apply R_retNew)
    | (with_reducible exact R_raise)
    | (with_reducible exact Es_nil)
    | (with_reducible apply Es_cons)
    | (with_reducible apply E_tup)
    | (with_reducible apply E_lst)
    | (with_reducible apply E_bin)
    | (with_reducible apply E_neg)
    | (with_reducible apply E_not)
    | (with_reducible apply E_cmp)
    | (with_reducible apply E_chain)
    | (with_reducible apply E_sub)
    | (with_reducible apply E_slice)
    | (with_reducible apply E_rev)
    | (with_reducible apply E_isa)
    | (with_reducible apply E_bi)
    | (with_reducible apply E_call)
    | (with_reducible exact O_none)
    | (with_reducible apply O_some)
    | (with_reducible exact C_none)
    | (with_reducible apply C_some)
    | (with_reducible apply T_of)
    | (with_reducible apply I_over)
    | (with_reducible apply I_range1)
    | (with_reducible apply I_range2)
    | (with_reducible apply I_enum)
    | (with_reducible exact Ss_nil)
    | (with_reducible exact B_add)
    | (with_reducible exact B_sub)
    | (with_reducible apply B_mul; rotate_left)
    | (simp only [Sxs.app]) | rfl )
  · exact mulOk_fig hx.1 ny (by omega) (by omega)
  · exact mulOk_fig hy.1 nx (by omega) (by omega)
  · exact mulOk_fig nx ny (by omega) (by omega)
def sumQ (qs : List Rat) : Rat := qs.foldl (fun a q => a + q) 0
theorem sumQ_snoc (qs : List Rat) (q : Rat) : sumQ (qs ++ [q]) = sumQ qs + q := by unfold sumQ; rw [List.foldl_append]; rfl
theorem foldl_lg {k : Nat} : ∀ {qs : List Rat} {j : Nat} {z : Rat}, Lg j z → (∀ q ∈ qs, Lg k q) → Lg (qs.length * (k + 1) + j) (qs.foldl (fun a q => a + q) z)
  | [], j, z, hz, _ => by simpa using hz
  | q :: qs, j, z, hz, h => by
    have h1 := foldl_lg (qs := qs) (lg_add hz (h q (by simp))) fun x hx => h x (by simp [hx])
    rw [List.foldl_cons, List.length_cons, Nat.add_mul, Nat.one_mul]
    exact h1.mono (by omega)
theorem sumQ_lg {qs : List Rat} {k : Nat} (h : ∀ q ∈ qs, Lg k q) : Lg (qs.length * (k + 1) + 1) (sumQ qs) := foldl_lg (z := 0) ⟨by decide, by decide⟩ h
theorem sp_total (hc : Φ 0 = some b_common_of) (hl : Φ 4 = some b_low_points) (hp : Φ 43 = some b_plus) (h : Φ 53 = some b_total) {qs : List Rat} (hq : ∀ q ∈ qs, Lg 7 q) (hlen : qs.length ≤ 24) : callF Φ Λ nm FF4 (n + 4) (.fn 53) [.tup (qs.map encQ)] S = .ok (encQ (sumQ qs)) S := by
  obtain ⟨ρ', S', e, hI⟩ := for_inv (b := evSs (callF Φ Λ nm FF4 (n + 3)) nm FF4 (.cons (.asg (.nm 1) (.call 43 (.cons (.var 1) (.cons (.var 2) .nil)))) .nil)) (p := .nm 2) (fun i ρ S' => S = S' ∧ ∃ a, ρ = [.val (.tup (qs.map encQ)), .val (encQ (sumQ (qs.take i))), a]) (xs := qs.map encQ) (i := 0) (ρ := [.val (.tup (qs.map encQ)), .val (encQ 0), .none]) (S := S) (fun j x ρ S' hx hI => by
      obtain ⟨rfl, a, rfl⟩ := hI
      rw [Nat.zero_add] at *
      rw [List.getElem?_map] at hx
      cases hj : qs[j]? with
      | none => rw [hj] at hx; cases hx
      | some q =>
        rw [hj] at hx
        cases hx
        have hm := List.mem_of_getElem? hj
        have lt : j < qs.length := (List.getElem?_eq_some_iff.mp hj).1
        have l1 := sumQ_lg (qs := qs.take j) (k := 7) fun x hx => hq x (List.mem_of_mem_take hx)
        refine ⟨_, [.val (.tup (qs.map encQ)), .val (encQ (sumQ (qs.take (j + 1)))), .val (encQ q)], S, rfl, ?_, rfl, _, rfl⟩
        have e2 : qs.take (j + 1) = qs.take j ++ [q] := by rw [List.take_add_one, hj]; rfl
        rw [e2, sumQ_snoc]
        refine R_asg (S1 := S) (E_call (Es_cons (E_var rfl) (Es_cons (E_var rfl) Es_nil)) (sp_plus hc hl hp l1 (hq q hm) ?_ (by decide))) rfl Ss_nil
        rw [List.length_take]
        omega) ⟨rfl, _, rfl⟩
  obtain ⟨rfl, a, rfl⟩ := hI
  refine call_ret h rfl (R_asg (S1 := S) (ρ1 := [.val (.tup (qs.map encQ)), .val (encQ 0), .none]) E_lit rfl (R_for (I_over (E_var rfl) rfl) e (R_ret (E_var ?_))))
  rw [Nat.zero_add, List.length_map, List.take_length]
  rfl
end
/-! ### the size of a half -/
/-- what the size of some triangle has at most, for a prime that divides the weight -/
def most (p : Nat) : Int := if p = 2 then -1 else 0
theorem vQ_half {s : Int × Int} {p : Nat} (hp : p ∈ PR s) : vQ p (1 / 2) = most p := by
  have e : vQ p (1 / 2) = (mu p 1 : Int) - mu p 2 := by
    have h1 : (1 / 2 : Rat).num = 1 := by decide +kernel
    have h2 : (1 / 2 : Rat).den = 2 := by decide +kernel
    unfold vQ mI
    rw [h1, h2]; rfl
  rw [e, mu_one (PR_prime hp).two]
  have := (List.mem_filter.mp hp).1
  simp only [List.mem_cons, List.mem_nil_iff, or_false] at this
  rcases this with rfl | rfl | rfl | rfl | rfl
  · have : mu 2 (2 * 1) = mu 2 1 + 1 := mu_step (by decide) (by decide)
    rw [show (2 : Nat) = 2 * 1 from rfl, show mu (2 * 1) (2 * 1) = mu 2 (2 * 1) from rfl, this, mu_one (by decide)]
    rfl
  · rw [mu_zero _ (by decide)]; rfl
  · rw [mu_zero _ (by decide)]; rfl
  · rw [mu_zero _ (by decide)]; rfl
  · rw [mu_zero _ (by decide)]; rfl
theorem ar_full {s : Int × Int} {p : Nat} (hp : p ∈ PR s) {t : Trg} (h : Full p t) : ar t ≠ 0 ∧ vQ p (ar t) ≤ most p := by
  have P := PR_prime hp
  obtain ⟨h1, h2⟩ := full3_cross P h
  have h3 : absQ (crossQ t.1 t.2.1 t.2.2) ≠ 0 ∧ vQ p (absQ (crossQ t.1 t.2.1 t.2.2)) ≤ 0 := by
    unfold absQ
    split
    · exact ⟨by grind, by rw [vQ_neg]; exact h2⟩
    · exact ⟨h1, h2⟩
  have e : ar t = absQ (crossQ t.1 t.2.1 t.2.2) * (1 / 2) := by
    unfold ar sizeQ; grind
  have m := vQ_mul P h3.1 (show (1 / 2 : Rat) ≠ 0 by decide +kernel)
  rw [e]
  refine ⟨m.1, ?_⟩
  rw [m.2, vQ_half hp]
  omega
theorem ar_pos {t : Trg} (h : crT t ≠ 0) : 0 < ar t := by
  unfold ar sizeQ absQ
  unfold crT at h
  split <;> grind
theorem tot_sum : ∀ ts : List Trg, sumQ (ts.map ar) = tot ts := by
  have key : ∀ (ts : List Trg) (z : Rat), (ts.map ar).foldl (fun a q => a + q) z = z + tot ts := by
    intro ts
    induction ts with
    | nil => intro z; show z = z + 0; rw [Rat.add_zero]
    | cons t ts ih =>
      intro z
      rw [List.map_cons, List.foldl_cons, ih]
      show (z + ar t) + tot ts = z + (ar t + tot ts)
      rw [Rat.add_assoc]
  intro ts
  unfold sumQ
  rw [key, Rat.zero_add]
/-- the least prime that bars sizes -/
def barP (qs : List Rat) (p : Nat) : Bool := qs.all fun q => decide (most p < vQ p q)
def barN (s : Int × Int) (qs : List Rat) : Option Nat := (PR s).find? (barP qs)
def optD : Option Nat → D
  | some p => .int p
  | none => .non
theorem bar_drawn {s : Int × Int} {ts : List Trg} (d : Drawn (wh s) (PR s) ts) : barN s (ts.map ar) = none := by
  refine List.find?_eq_none.mpr fun p hp hb => ?_
  have ho := d.odd p hp (PR_prime hp)
  have : 0 < fulls p ts := by omega
  obtain ⟨t, ht, hf⟩ := List.countP_pos_iff.mp this
  have hf : Full p t := of_decide_eq_true hf
  have h1 := List.all_eq_true.mp hb (ar t) (List.mem_map.mpr ⟨t, ht, rfl⟩)
  have h1 := of_decide_eq_true h1
  have := (ar_full hp hf).2
  omega
end Iv
/-! MP: the program's fractions and sizes. -/
namespace Iv
open PySem Sh
section
variable {Φ : Nat → Option FnI} {Λ : Nat → Option LamI} {nm : Names} {n : Nat} {S : Store}
theorem sub_divInt (x y : Rat) : Rat.divInt (x.num * y.den - y.num * x.den) (x.den * y.den) = x - y := by
  conv => rhs; rw [← Rat.num_divInt_den x, ← Rat.num_divInt_den y]
  have dx := x.den_nz
  have dy := y.den_nz
  rw [Rat.divInt_sub_divInt _ _ (by omega) (by omega)]
theorem mul_divInt (x y : Rat) : Rat.divInt (x.num * y.num) (x.den * y.den) = x * y := by
  conv => rhs; rw [← Rat.num_divInt_den x, ← Rat.num_divInt_den y]
  rw [Rat.divInt_mul_divInt]
theorem dens {x y : Rat} {j k : Nat} (hx : Lg j x) (hy : Lg k y) : (x.den * y.den : Int) ≠ 0 ∧ ((x.den : Int)).natAbs < 10 ^ j ∧ ((y.den : Int)).natAbs < 10 ^ k := by
  have := Int.mul_pos (den_pos x) (den_pos y)
  exact ⟨by omega, by rw [Int.natAbs_natCast]; exact hx.2, by rw [Int.natAbs_natCast]; exact hy.2⟩
theorem sp_minus (hc : Φ 0 = some b_common_of) (hl : Φ 4 = some b_low_points) (h : Φ 5 = some b_minus) {x y : Rat} {j k : Nat} (hx : Lg j x) (hy : Lg k y) (hj : j ≤ 900) (hk : k ≤ 900) : callF Φ Λ nm FF4 (n + 3) (.fn 5) [encQ x, encQ y] S = .ok (encQ (x - y)) S := by
  obtain ⟨hd, nx, ny⟩ := dens hx hy
  have e := sp_low (Φ := Φ) (Λ := Λ) (nm := nm) (n := n) (S := S) hc hl (t := x.num * y.den - y.num * x.den) (b := x.den * y.den) hd (mul_fig nx ny) (by omega)
  rw [sub_divInt] at e
  refine call_ret h rfl (R_ret (E_call (S1 := S) ?_ e))
  repeat (first
    | with_reducible exact E_lit
    | (with_reducible apply E_var; rfl)
    | (with_reducible apply R_ret)
    | (with_reducible apply R_asg)
    | (with_reducible apply R_par2)
    | (with_reducible apply R_par3)
    | (with_reducible apply R_asg2)
    | (with_reducible apply R_expr)
    | (with_reducible apply R_own)
    | (with_reducible apply R_retOwn; rfl)
    | (with_reducible apply R_frz)
    | (with_reducible apply R_retNew)
    | (with_reducible exact R_raise)
    | (with_reducible exact Es_nil)
    | (with_reducible apply Es_cons)
    | (with_reducible apply E_tup)
    | (with_reducible apply E_lst)
    | (with_reducible apply E_bin)
    | (with_reducible apply E_neg)
    | (with_reducible apply E_not)
    | (with_reducible apply E_cmp)
    | (with_reducible apply E_chain)
    | (with_reducible apply E_sub)
    | (with_reducible apply E_slice)
    | (with_reducible apply E_rev)
    | (with_reducible apply E_isa)
    | (with_reducible apply E_bi)
    | (with_reducible apply E_call)
    | (with_reducible exact O_none)
    | (with_reducible apply O_some)
    | (with_reducible exact C_none)
    | (with_reducible apply C_some)
    | (with_reducible apply T_of)
    | (with_reducible apply I_over)
    | (with_reducible apply I_range1)
    | (with_reducible apply I_range2)
    | (with_reducible apply I_enum)
    | (with_reducible exact Ss_nil)
    | (with_reducible exact B_add)
    | (with_reducible exact B_sub)
    | (with_reducible apply B_mul; rotate_left)
    | (simp only [Sxs.app]) | rfl )
  · exact mulOk_fig hx.1 ny (by omega) (by omega)
  · exact mulOk_fig hy.1 nx (by omega) (by omega)
  · exact mulOk_fig nx ny (by omega) (by omega)
theorem sp_times (hc : Φ 0 = some b_common_of) (hl : Φ 4 = some b_low_points) (h : Φ 6 = some b_times) {x y : Rat} {j k : Nat} (hx : Lg j x) (hy : Lg k y) (hj : j ≤ 900) (hk : k ≤ 900) : callF Φ Λ nm FF4 (n + 3) (.fn 6) [encQ x, encQ y] S = .ok (encQ (x * y)) S := by
  obtain ⟨hd, nx, ny⟩ := dens hx hy
  have e := sp_low (Φ := Φ) (Λ := Λ) (nm := nm) (n := n) (S := S) hc hl (t := x.num * y.num) (b := x.den * y.den) hd (mul_fig nx ny) (by omega)
  rw [mul_divInt] at e
  refine call_ret h rfl (R_ret (E_call (S1 := S) ?_ e))
  repeat (first
    | with_reducible exact E_lit
    | (with_reducible apply E_var; rfl)
    | (with_reducible apply R_ret)
    | (with_reducible apply R_asg)
    | (with_reducible apply R_par2)
    | (with_reducible apply R_par3)
    | (with_reducible apply R_asg2)
    | (with_reducible apply R_expr)
    | (with_reducible apply R_own)
    | (with_reducible apply R_retOwn; rfl)
    | (with_reducible apply R_frz)
    | (with_reducible apply R_retNew)
    | (with_reducible exact R_raise)
    | (with_reducible exact Es_nil)
    | (with_reducible apply Es_cons)
    | (with_reducible apply E_tup)
    | (with_reducible apply E_lst)
    | (with_reducible apply E_bin)
    | (with_reducible apply E_neg)
    | (with_reducible apply E_not)
    | (with_reducible apply E_cmp)
    | (with_reducible apply E_chain)
    | (with_reducible apply E_sub)
    | (with_reducible apply E_slice)
    | (with_reducible apply E_rev)
    | (with_reducible apply E_isa)
    | (with_reducible apply E_bi)
    | (with_reducible apply E_call)
    | (with_reducible exact O_none)
    | (with_reducible apply O_some)
    | (with_reducible exact C_none)
    | (with_reducible apply C_some)
    | (with_reducible apply T_of)
    | (with_reducible apply I_over)
    | (with_reducible apply I_range1)
    | (with_reducible apply I_range2)
    | (with_reducible apply I_enum)
    | (with_reducible exact Ss_nil)
    | (with_reducible exact B_add)
    | (with_reducible exact B_sub)
    | (with_reducible apply B_mul; rotate_left)
    | (simp only [Sxs.app]) | rfl )
  · exact mulOk_fig hx.1 hy.1 (by omega) (by omega)
  · exact mulOk_fig nx ny (by omega) (by omega)
theorem sp_turn_of (hc : Φ 0 = some b_common_of) (hl : Φ 4 = some b_low_points) (hm : Φ 5 = some b_minus) (ht : Φ 6 = some b_times) (h : Φ 7 = some b_turn_of) {k : Nat} {o a b : Pnt} (ho : LgP k o) (ha : LgP k a) (hb : LgP k b) (hk : k ≤ 100) :
    callF Φ Λ nm FF4 (n + 4) (.fn 7) [encP o, encP a, encP b] S = .ok (encQ (crossQ o a b)) S := by
  have d1 := lg_sub ha.1 ho.1
  have d2 := lg_sub hb.2 ho.2
  have d3 := lg_sub ha.2 ho.2
  have d4 := lg_sub hb.1 ho.1
  refine call_ret h rfl (R_asg (d := encQ ((a.1 - o.1) * (b.2 - o.2))) (S1 := S) (ρ1 := [.val (encP o), .val (encP a), .val (encP b), .val (encQ ((a.1 - o.1) * (b.2 - o.2)))]) (E_call (S1 := S) (ds := [encQ (a.1 - o.1), encQ (b.2 - o.2)]) (Es_cons (E_call (Es_cons (E_sub (E_var rfl) E_lit rfl) (Es_cons (E_sub (E_var rfl) E_lit rfl) Es_nil)) (sp_minus hc hl hm ha.1 ho.1 (by omega) (by omega))) (Es_cons (E_call (Es_cons (E_sub (E_var rfl) E_lit rfl) (Es_cons (E_sub (E_var rfl) E_lit rfl) Es_nil)) (sp_minus hc hl hm hb.2 ho.2 (by omega) (by omega))) Es_nil)) (sp_times hc hl ht d1 d2 (by omega) (by omega))) rfl
    (R_ret (E_call (S1 := S) (ds := [encQ ((a.1 - o.1) * (b.2 - o.2)), encQ ((a.2 - o.2) * (b.1 - o.1))]) (Es_cons (E_var rfl) (Es_cons (E_call (S1 := S) (ds := [encQ (a.2 - o.2), encQ (b.1 - o.1)]) (Es_cons (E_call (Es_cons (E_sub (E_var rfl) E_lit rfl) (Es_cons (E_sub (E_var rfl) E_lit rfl) Es_nil)) (sp_minus hc hl hm ha.2 ho.2 (by omega) (by omega))) (Es_cons (E_call (Es_cons (E_sub (E_var rfl) E_lit rfl) (Es_cons (E_sub (E_var rfl) E_lit rfl) Es_nil)) (sp_minus hc hl hm hb.1 ho.1 (by omega) (by omega))) Es_nil)) (sp_times hc hl ht d3 d4 (by omega) (by omega))) Es_nil)) (sp_minus hc hl hm (lg_mul d1 d2) (lg_mul d3 d4) (by omega) (by omega)))))
theorem sp_size_of (hc : Φ 0 = some b_common_of) (hl : Φ 4 = some b_low_points) (hm : Φ 5 = some b_minus) (ht : Φ 6 = some b_times) (ho : Φ 7 = some b_turn_of) (h : Φ 8 = some b_size_of) {k : Nat} {t : Pnt × Pnt × Pnt} (h1 : LgP k t.1) (h2 : LgP k t.2.1) (h3 : LgP k t.2.2) (hk : k ≤ 100) :
    callF Φ Λ nm FF4 (n + 5) (.fn 8) [encT t] S = .ok (encQ (sizeQ t.1 t.2.1 t.2.2)) S := by
  have lc := lg_crossQ h1 h2 h3
  have hd := den_pos (crossQ t.1 t.2.1 t.2.2)
  have ld : ((crossQ t.1 t.2.1 t.2.2).den : Int).natAbs < 10 ^ (8 * k + 5) := by rw [Int.natAbs_natCast]; exact lc.2
  have e := sp_low (Φ := Φ) (Λ := Λ) (nm := nm) (n := n + 2) (S := S) hc hl (t := if (crossQ t.1 t.2.1 t.2.2).num < 0 then -(crossQ t.1 t.2.1 t.2.2).num else (crossQ t.1 t.2.1 t.2.2).num) (b := 2 * ((crossQ t.1 t.2.1 t.2.2).den : Int)) (by omega) (k := 1 + (8 * k + 5)) (mul_fig (j := 1) (by decide) ld) (by omega)
  rw [absQ_divInt] at e
  refine call_ret h rfl (R_asg (d := encQ (crossQ t.1 t.2.1 t.2.2)) (S1 := S) (ρ1 := [.val (encT t), .val (.int (crossQ t.1 t.2.1 t.2.2).num), .val (.int (crossQ t.1 t.2.1 t.2.2).den)]) (E_call (S1 := S) (ds := [encP t.1, encP t.2.1, encP t.2.2]) ?_ (sp_turn_of hc hl hm ht ho h1 h2 h3 hk)) rfl (R_ret (E_call (S1 := S) ?_ e)))
  · repeat (first
    | with_reducible exact E_lit
    | (with_reducible apply E_var; rfl)
    | (with_reducible apply R_ret)
    | (with_reducible apply R_asg)
    | (with_reducible apply R_par2)
    | (with_reducible apply R_par3)
    | (with_reducible apply R_asg2)
    | (with_reducible apply R_expr)
    | (with_reducible apply R_own)
    | (with_reducible apply R_retOwn; rfl)
    | (with_reducible apply R_frz)
    | (with_reducible apply R_retNew)
    | (with_reducible exact R_raise)
    | (with_reducible exact Es_nil)
    | (with_reducible apply Es_cons)
    | (with_reducible apply E_tup)
    | (with_reducible apply E_lst)
    | (with_reducible apply E_bin)
    | (with_reducible apply E_neg)
    | (with_reducible apply E_not)
    | (with_reducible apply E_cmp)
    | (with_reducible apply E_chain)
    | (with_reducible apply E_sub)
    | (with_reducible apply E_slice)
    | (with_reducible apply E_rev)
    | (with_reducible apply E_isa)
    | (with_reducible apply E_bi)
    | (with_reducible apply E_call)
    | (with_reducible exact O_none)
    | (with_reducible apply O_some)
    | (with_reducible exact C_none)
    | (with_reducible apply C_some)
    | (with_reducible apply T_of)
    | (with_reducible apply I_over)
    | (with_reducible apply I_range1)
    | (with_reducible apply I_range2)
    | (with_reducible apply I_enum)
    | (with_reducible exact Ss_nil)
    | (with_reducible exact B_add)
    | (with_reducible exact B_sub)
    | (with_reducible apply B_mul; rotate_left)
    | (simp only [Sxs.app]) | rfl )
  · repeat (first
    | with_reducible exact E_lit
    | (with_reducible apply E_var; rfl)
    | (with_reducible apply R_ret)
    | (with_reducible apply R_asg)
    | (with_reducible apply R_par2)
    | (with_reducible apply R_par3)
    | (with_reducible apply R_asg2)
    | (with_reducible apply R_expr)
    | (with_reducible apply R_own)
    | (with_reducible apply R_retOwn; rfl)
    | (with_reducible apply R_frz)
    | (with_reducible apply R_retNew)
    | (with_reducible exact R_raise)
    | (with_reducible exact Es_nil)
    | (with_reducible apply Es_cons)
    | (with_reducible apply E_tup)
    | (with_reducible apply E_lst)
    | (with_reducible apply E_bin)
    | (with_reducible apply E_neg)
    | (with_reducible apply E_not)
    | (with_reducible apply E_cmp)
    | (with_reducible apply E_chain)
    | (with_reducible apply E_sub)
    | (with_reducible apply E_slice)
    | (with_reducible apply E_rev)
    | (with_reducible apply E_isa)
    | (with_reducible apply E_bi)
    | (with_reducible apply E_call)
    | (with_reducible exact O_none)
    | (with_reducible apply O_some)
    | (with_reducible exact C_none)
    | (with_reducible apply C_some)
    | (with_reducible apply T_of)
    | (with_reducible apply I_over)
    | (with_reducible apply I_range1)
    | (with_reducible apply I_range2)
    | (with_reducible apply I_enum)
    | (with_reducible exact Ss_nil)
    | (with_reducible exact B_add)
    | (with_reducible exact B_sub)
    | (with_reducible apply B_mul; rotate_left)
    | (simp only [Sxs.app]) | rfl )
    exact mulOk_fig (j := 1) (by decide) ld (by decide) (by omega)
end
end Iv
/-! MI: what asks for fractions says of any value. -/
namespace Iv
open PySem Sh
/-- values without objects or functions at the top -/
def Plain : D → Prop
  | .non | .bl _ | .int _ | .str _ | .tup _ | .lst _ => True
  | _ => False
def isW (lo hi : Int) : D → Bool
  | .int a => decide (lo ≤ a) && decide (a ≤ hi)
  | _ => false
def isFr : D → Bool
  | .tup [x, .int b] => isW 1 1000000 (.int b) && (match x with
    | .int a => isW (-1000000) 1000000 (.int a) && decide ((Int.gcd a b : Int) = 1)
    | _ => false)
  | _ => false
section
variable {Φ : Nat → Option FnI} {Λ : Nat → Option LamI} {nm : Names} {n : Nat} {S : Store}
theorem any_is_whole (h : Φ 1 = some b_is_whole) {d : D} (hd : Plain d) (lo hi : Int) : callF Φ Λ nm FF4 (n + 1) (.fn 1) [d, .int lo, .int hi] S = .ok (.bl (isW lo hi d)) S := by
  cases d <;> try (exact absurd hd (fun z => z))
  case int a => exact sp_is_whole h a lo hi
  case bl b => exact call_ret h rfl (R_ret (E_and_t (x := .bl true) (S1 := S) (E_isa (E_var rfl) rfl) rfl (E_and_f (x := .bl false) (E_not (k := true) (E_isa (E_var rfl) rfl) rfl) rfl)))
  all_goals exact call_ret h rfl (R_ret (E_and_f (x := .bl false) (E_isa (E_var rfl) rfl) rfl))
theorem any_law_is_whole (h : Φ 22 = some b__law_is_whole) {d : D} (hd : Plain d) (lo hi : Int) : callF Φ Λ nm FF4 (n + 1) (.fn 22) [d, .int lo, .int hi] S = .ok (.bl (isW lo hi d)) S := by
  cases d <;> try (exact absurd hd (fun z => z))
  case int a => exact sp_law_is_whole h a lo hi
  case bl b => exact call_ret h rfl (R_ret (E_and_t (x := .bl true) (S1 := S) (E_isa (E_var rfl) rfl) rfl (E_and_f (x := .bl false) (E_not (k := true) (E_isa (E_var rfl) rfl) rfl) rfl)))
  all_goals exact call_ret h rfl (R_ret (E_and_f (x := .bl false) (E_isa (E_var rfl) rfl) rfl))
/-- a value whose items are plain, too -/
def Plain1 (d : D) : Prop := Plain d ∧ ∀ xs, d = .tup xs → ∀ x ∈ xs, Plain x
theorem isW_int {lo hi : Int} {d : D} (h : isW lo hi d = true) : ∃ a, d = .int a ∧ lo ≤ a ∧ a ≤ hi := by
  cases d with
  | int a =>
    simp only [isW, Bool.and_eq_true, decide_eq_true_eq] at h
    exact ⟨a, rfl, h.1, h.2⟩
  | _ => cases h
theorem isFr_two {x y : D} (hx : isW (-1000000) 1000000 x = false ∨ isW 1 1000000 y = false) : isFr (.tup [x, y]) = false := by
  cases y <;> try rfl
  case int b =>
    cases x <;> try (exact Bool.and_false _)
    case int a =>
      show (isW 1 1000000 (.int b) && (isW (-1000000) 1000000 (.int a) && decide ((Int.gcd a b : Int) = 1))) = false
      rcases hx with e | e
      · rw [e, Bool.false_and, Bool.and_false]
      · rw [e, Bool.false_and]
theorem any_is_fraction (hw : Φ 1 = some b_is_whole) (hc : Φ 0 = some b_common_of) (h : Φ 2 = some b_is_fraction) {d : D} (hd : Plain1 d) : callF Φ Λ nm FF4 (n + 2) (.fn 2) [d] S = .ok (.bl (isFr d)) S := by
  obtain ⟨h1, h2⟩ := hd
  have long : ∀ xs : List D, xs.length ≠ 2 → callF Φ Λ nm FF4 (n + 2) (.fn 2) [.tup xs] S = .ok (.bl false) S := fun xs hl => by
    refine call_ret h rfl (R_ite_t (S1 := S) (k := true) (T_of (x := .bl true) (E_or_f (x := .bl false) (S1 := S) (E_not (k := true) (E_isa (E_var rfl) rfl) rfl) rfl (E_cmp (x := .int xs.length) (S1 := S) (E_bi (Es_cons (E_var rfl) Es_nil) rfl) E_lit ?_)) rfl) rfl (R_ret E_lit))
    rw [c_ne_int, decide_eq_false (by omega)]; rfl
  cases d <;> try (exact absurd h1 (fun z => z))
  case tup xs =>
    match xs, h2 with
    | [], _ => exact long [] (by simp)
    | [x], _ => exact long [x] (by simp)
    | x :: y :: z :: r, _ =>
      have e : isFr (.tup (x :: y :: z :: r)) = false := by cases y <;> rfl
      rw [e]
      exact long (x :: y :: z :: r) (by simp)
    | [x, y], h2 =>
      have px := h2 _ rfl x (by simp)
      have py := h2 _ rfl y (by simp)
      have ex := any_is_whole (Φ := Φ) (Λ := Λ) (nm := nm) (n := n) (S := S) hw px (-1000000) 1000000
      have ey := any_is_whole (Φ := Φ) (Λ := Λ) (nm := nm) (n := n) (S := S) hw py 1 1000000
      have c1 : evT (callF Φ Λ nm FF4 (n + 1)) (.or (.not (.isa .tuple (.var 0))) (.cmp .ne (.bi .len (.cons (.var 0) .nil)) (.lit (.int 2)))) (frameN 1 [.tup [x, y]]) S = .ok false S := T_of (x := .bl false) (E_or_f (x := .bl false) (S1 := S) (E_not (k := true) (E_isa (E_var rfl) rfl) rfl) rfl (E_cmp (E_bi (Es_cons (E_var rfl) Es_nil) rfl) E_lit (c_ne_int 2 2))) rfl
      have c2 : evT (callF Φ Λ nm FF4 (n + 1)) (.or (.not (.call 1 (.cons (.sub (.var 0) (.lit (.int 0))) (.cons (.neg (.lit (.int 1000000))) (.cons (.lit (.int 1000000)) .nil))))) (.not (.call 1 (.cons (.sub (.var 0) (.lit (.int 1))) (.cons (.lit (.int 1)) (.cons (.lit (.int 1000000)) .nil)))))) (frameN 1 [.tup [x, y]]) S = .ok (!isW (-1000000) 1000000 x || !isW 1 1000000 y) S :=
        T_of (E_or_b (S1 := S) (E_not (x := .bl (isW (-1000000) 1000000 x)) (E_call (S1 := S) (ds := [x, .int (-1000000), .int 1000000]) (Es_cons (E_sub (E_var rfl) E_lit rfl) (Es_cons (E_neg E_lit) (Es_cons E_lit Es_nil))) ex) rfl)
          (E_not (x := .bl (isW 1 1000000 y)) (E_call (S1 := S) (ds := [y, .int 1, .int 1000000]) (Es_cons (E_sub (E_var rfl) E_lit rfl) (Es_cons E_lit (Es_cons E_lit Es_nil))) ey) rfl)) rfl
      cases wx : isW (-1000000) 1000000 x with
      | false =>
        rw [wx] at c2
        rw [isFr_two (.inl wx)]
        exact call_ret h rfl (R_ite_f (S1 := S) c1 rfl (R_ite_t (S1 := S) c2 rfl (R_ret E_lit)))
      | true =>
        cases wy : isW 1 1000000 y with
        | false =>
          rw [wx, wy] at c2
          rw [isFr_two (.inr wy)]
          exact call_ret h rfl (R_ite_f (S1 := S) c1 rfl (R_ite_t (S1 := S) c2 rfl (R_ret E_lit)))
        | true =>
          rw [wx, wy] at c2
          obtain ⟨a, rfl, _, _⟩ := isW_int wx
          obtain ⟨b, rfl, b1, b2⟩ := isW_int wy
          have e : isFr (.tup [.int a, .int b]) = decide ((Int.gcd a b : Int) = 1) := by
            show (isW 1 1000000 (.int b) && (isW (-1000000) 1000000 (.int a) && decide ((Int.gcd a b : Int) = 1))) = _
            rw [wx, wy]; rfl
          rw [e]
          exact call_ret h rfl (R_ite_f (S1 := S) c1 rfl (R_ite_f (S1 := S) c2 rfl (R_ret (E_cmp (x := .int (Int.gcd a b)) (S1 := S) (E_call (Es_cons (E_sub (E_var rfl) E_lit rfl) (Es_cons (E_sub (E_var rfl) E_lit rfl) Es_nil)) (sp_common_of hc a b (fig_FF (k := 7) (by omega) (by decide)))) E_lit (c_eq_int _ _)))))
  all_goals exact call_ret h rfl (R_ite_t (S1 := S) (k := true) (T_of (x := .bl true) (E_or_t (x := .bl true) (S1 := S) (E_not (k := false) (E_isa (E_var rfl) rfl) rfl) rfl) rfl) rfl (R_ret E_lit))
theorem any_law_is_fraction (hw : Φ 22 = some b__law_is_whole) (hc : Φ 24 = some b__law_gcd) (h : Φ 27 = some b__law_is_fraction) {d : D} (hd : Plain1 d) : callF Φ Λ nm FF4 (n + 2) (.fn 27) [d] S = .ok (.bl (isFr d)) S := by
  obtain ⟨h1, h2⟩ := hd
  have long : ∀ xs : List D, xs.length ≠ 2 → callF Φ Λ nm FF4 (n + 2) (.fn 27) [.tup xs] S = .ok (.bl false) S := fun xs hl => by
    refine call_ret h rfl (R_ite_t (S1 := S) (k := true) (T_of (x := .bl true) (E_or_f (x := .bl false) (S1 := S) (E_not (k := true) (E_isa (E_var rfl) rfl) rfl) rfl (E_or_t (x := .bl true) (S1 := S) (E_cmp (x := .int xs.length) (S1 := S) (E_bi (Es_cons (E_var rfl) Es_nil) rfl) E_lit ?_) rfl)) rfl) rfl (R_ret E_lit))
    rw [c_ne_int, decide_eq_false (by omega)]; rfl
  cases d <;> try (exact absurd h1 (fun z => z))
  case tup xs =>
    match xs, h2 with
    | [], _ => exact long [] (by simp)
    | [x], _ => exact long [x] (by simp)
    | x :: y :: z :: r, _ =>
      have e : isFr (.tup (x :: y :: z :: r)) = false := by cases y <;> rfl
      rw [e]
      exact long (x :: y :: z :: r) (by simp)
    | [x, y], h2 =>
      have px := h2 _ rfl x (by simp)
      have py := h2 _ rfl y (by simp)
      have ex := any_law_is_whole (Φ := Φ) (Λ := Λ) (nm := nm) (n := n) (S := S) hw px (-(10 ^ 6)) (10 ^ 6)
      have ey := any_law_is_whole (Φ := Φ) (Λ := Λ) (nm := nm) (n := n) (S := S) hw py 1 (10 ^ 6)
      have c1 : evT (callF Φ Λ nm FF4 (n + 1)) (.or (.not (.isa .tuple (.var 0))) (.or (.cmp .ne (.bi .len (.cons (.var 0) .nil)) (.lit (.int 2))) (.not (.call 22 (.cons (.sub (.var 0) (.lit (.int 1))) (.cons (.lit (.int 1)) (.cons (.bin .pow (.lit (.int 10)) (.lit (.int 6))) .nil))))))) (frameN 1 [.tup [x, y]]) S = .ok (!isW 1 (10 ^ 6) y) S :=
        T_of (x := .bl (!isW 1 (10 ^ 6) y)) (E_or_f (x := .bl false) (S1 := S) (E_not (k := true) (E_isa (E_var rfl) rfl) rfl) rfl (E_or_f (x := .bl false) (S1 := S) (E_cmp (E_bi (Es_cons (E_var rfl) Es_nil) rfl) E_lit (c_ne_int 2 2)) rfl
          (E_not (x := .bl (isW 1 (10 ^ 6) y)) (E_call (S1 := S) (ds := [y, .int 1, .int (10 ^ 6)]) (Es_cons (E_sub (E_var rfl) E_lit rfl) (Es_cons E_lit (Es_cons (E_bin E_lit E_lit rfl) Es_nil))) ey) rfl))) rfl
      have e0 : evE (callF Φ Λ nm FF4 (n + 1)) (.call 22 (.cons (.sub (.var 0) (.lit (.int 0))) (.cons (.neg (.bin .pow (.lit (.int 10)) (.lit (.int 6)))) (.cons (.bin .pow (.lit (.int 10)) (.lit (.int 6))) .nil)))) (frameN 1 [.tup [x, y]]) S = .ok (.bl (isW (-(10 ^ 6)) (10 ^ 6) x)) S :=
        E_call (S1 := S) (ds := [x, .int (-(10 ^ 6)), .int (10 ^ 6)]) (Es_cons (E_sub (E_var rfl) E_lit rfl) (Es_cons (E_neg (E_bin E_lit E_lit rfl)) (Es_cons (E_bin E_lit E_lit rfl) Es_nil))) ex
      have k1 : isW 1 1000000 y = isW 1 (10 ^ 6) y := rfl
      have k2 : isW (-1000000) 1000000 x = isW (-(10 ^ 6)) (10 ^ 6) x := rfl
      cases wy : isW 1 (10 ^ 6) y with
      | false =>
        rw [wy] at c1
        rw [isFr_two (.inr (k1.trans wy))]
        exact call_ret h rfl (R_ite_t (S1 := S) c1 rfl (R_ret E_lit))
      | true =>
        rw [wy] at c1
        cases wx : isW (-(10 ^ 6)) (10 ^ 6) x with
        | false =>
          rw [wx] at e0
          rw [isFr_two (.inl (k2.trans wx))]
          exact call_ret h rfl (R_ite_f (S1 := S) c1 rfl (R_ret (E_and_f e0 rfl)))
        | true =>
          rw [wx] at e0
          obtain ⟨a, rfl, _, _⟩ := isW_int wx
          obtain ⟨b, rfl, b1, b2⟩ := isW_int wy
          have e : isFr (.tup [.int a, .int b]) = decide ((Int.gcd a b : Int) = 1) := by
            show (isW 1 1000000 (.int b) && (isW (-1000000) 1000000 (.int a) && decide ((Int.gcd a b : Int) = 1))) = _
            rw [k1, k2, wx, wy]; rfl
          rw [e]
          exact call_ret h rfl (R_ite_f (S1 := S) c1 rfl (R_ret (E_and_t e0 rfl (E_cmp (x := .int (Int.gcd a b)) (S1 := S) (E_call (Es_cons (E_sub (E_var rfl) E_lit rfl) (Es_cons (E_sub (E_var rfl) E_lit rfl) Es_nil)) (sp_law_gcd hc a b (fig_FF (k := 7) (by omega) (by decide)))) E_lit (c_eq_int _ _)))))
  all_goals exact call_ret h rfl (R_ite_t (S1 := S) (k := true) (T_of (x := .bl true) (E_or_t (x := .bl true) (S1 := S) (E_not (k := false) (E_isa (E_var rfl) rfl) rfl) rfl) rfl) rfl (R_ret E_lit))
def Plain2 (d : D) : Prop := Plain d ∧ ∀ xs, d = .tup xs → ∀ x ∈ xs, Plain1 x
def isPt : D → Bool
  | .tup [x, y] => isFr x && isFr y
  | _ => false
theorem any_is_point (hw : Φ 1 = some b_is_whole) (hc : Φ 0 = some b_common_of) (hf : Φ 2 = some b_is_fraction) (h : Φ 3 = some b_is_point) {d : D} (hd : Plain2 d) : callF Φ Λ nm FF4 (n + 3) (.fn 3) [d] S = .ok (.bl (isPt d)) S := by
  obtain ⟨h1, h2⟩ := hd
  have long : ∀ xs : List D, xs.length ≠ 2 → callF Φ Λ nm FF4 (n + 3) (.fn 3) [.tup xs] S = .ok (.bl false) S := fun xs hl => by
    refine call_ret h rfl (R_ret (E_and_t (x := .bl true) (S1 := S) (E_isa (E_var rfl) rfl) rfl (E_and_f (x := .bl false) (E_cmp (x := .int xs.length) (S1 := S) (E_bi (Es_cons (E_var rfl) Es_nil) rfl) E_lit ?_) rfl)))
    rw [c_eq_int, decide_eq_false (by omega)]
  cases d <;> try (exact absurd h1 (fun z => z))
  case tup xs =>
    match xs, h2 with
    | [], _ => exact long [] (by simp)
    | [x], _ => exact long [x] (by simp)
    | x :: y :: z :: r, _ => exact long (x :: y :: z :: r) (by simp)
    | [x, y], h2 =>
      have e : isPt (.tup [x, y]) = [x, y].all isFr := by simp [isPt]
      rw [e]
      refine call_ret h rfl (R_ret (E_and_t (x := .bl true) (S1 := S) (E_isa (E_var rfl) rfl) rfl (E_and_t (x := .bl true) (S1 := S) (E_cmp (E_bi (Es_cons (E_var rfl) Es_nil) rfl) E_lit (c_eq_int 2 2)) rfl (E_bi (S1 := S) (ds := [.lst ([x, y].map fun z => .bl (isFr z))]) (Es_cons (S1 := S) (E_comp (S1 := S) (xs := [x, y].map fun z => z) (I_over (E_var rfl) rfl) (compLoop_all (fun z => .bl (isFr z)) fun z hz => ⟨_, rfl, elem_1 C_none (E_call (S1 := S) (Es_cons (E_var rfl) Es_nil) (any_is_fraction hw hc hf (h2 _ rfl z hz)))⟩) (Nat.le_of_ble_eq_true rfl)) Es_nil) (all_map isFr [x, y])))))
  all_goals exact call_ret h rfl (R_ret (E_and_f (x := .bl false) (E_isa (E_var rfl) rfl) rfl))
end
end Iv
/-! MHu: hues in the program. -/
namespace Iv
open PySem Sh
def encH : Hue → D
  | .a => .str (Str.ofString "a")
  | .b => .str (Str.ofString "b")
  | .c => .str (Str.ofString "c")
/-- how often a prime stands in a fraction, None for 0 -/
def tvD (p : Nat) (q : Rat) : D := if q = 0 then .non else .int (vQ p q)
section
variable {Φ : Nat → Option FnI} {Λ : Nat → Option LamI} {nm : Names} {n : Nat} {S : Store}
theorem sp_times_in0 (hd : Φ 10 = some b_divides) (h : Φ 11 = some b_times_in) {p : Nat} (hp : 2 ≤ p) (hp2 : p < 1000) {q : Rat} {k : Nat} (hk : Lg k q) (hk2 : k ≤ 2000) : callF Φ Λ nm FF4 (n + 2) (.fn 11) [.int p, encQ q] S = .ok (tvD p q) S := by
  unfold tvD
  by_cases q0 : q = 0
  · rw [if_pos q0]
    have hn : q.num = 0 := by rw [q0]; rfl
    exact call_ret h rfl (R_ite_t (S1 := S) (k := true) (T_of (x := .bl (decide (q.num = 0))) (E_cmp (E_sub (E_var rfl) E_lit rfl) E_lit (c_eq_int _ _)) (by rw [decide_eq_true hn]; rfl)) rfl (R_ret E_lit))
  · rw [if_neg q0]
    exact sp_times_in hd h hp hp2 q0 hk hk2
theorem sp_hue_of (hd : Φ 10 = some b_divides) (ht : Φ 11 = some b_times_in) (h : Φ 12 = some b_hue_of) {p : Nat} (hp : 2 ≤ p) (hp2 : p < 1000) {q : Pnt} {k : Nat} (hk : LgP k q) (hk2 : k ≤ 2000) : callF Φ Λ nm FF4 (n + 3) (.fn 12) [.int p, encP q] S = .ok (encH (hueQ p q)) S := by
  have hx := sp_times_in0 (Φ := Φ) (Λ := Λ) (nm := nm) (n := n) (S := S) hd ht hp hp2 hk.1 hk2
  have hy := sp_times_in0 (Φ := Φ) (Λ := Λ) (nm := nm) (n := n) (S := S) hd ht hp hp2 hk.2 hk2
  have tail : ∀ ρ : Iv.Env, slotD ρ 3 = some (tvD p q.2) → evE (callF Φ Λ nm FF4 (n + 2)) (.ite (.and (.cmp .isNot (.var 3) (.lit .non)) (.cmp .le (.var 3) (.lit (.int 0)))) (.lit (.str (Str.ofString "c"))) (.lit (.str (Str.ofString "a")))) ρ S = .ok (encH (if isC p q then .c else .a)) S := by
    intro ρ h3
    unfold tvD at h3
    unfold isC
    by_cases y0 : q.2 = 0
    · rw [if_pos y0] at h3
      rw [decide_eq_false (fun z => z y0), Bool.false_and]
      exact E_ite_f (x := .bl false) (E_and_f (x := .bl false) (E_cmp (E_var h3) E_lit rfl) rfl) rfl E_lit
    · rw [if_neg y0] at h3
      rw [decide_eq_true y0, Bool.true_and]
      have hc : evE (callF Φ Λ nm FF4 (n + 2)) (.and (.cmp .isNot (.var 3) (.lit .non)) (.cmp .le (.var 3) (.lit (.int 0)))) ρ S = .ok (.bl (decide (vQ p q.2 ≤ 0))) S := E_and_t (x := .bl true) (S1 := S) (E_cmp (E_var h3) E_lit rfl) rfl (E_cmp (E_var h3) E_lit rfl)
      cases hv : decide (vQ p q.2 ≤ 0) with
      | true => rw [hv] at hc; exact E_ite_t hc rfl E_lit
      | false => rw [hv] at hc; exact E_ite_f hc rfl E_lit
  refine call_ret h rfl (R_par2 (S1 := S) (S2 := S) (x := tvD p q.1) (y := tvD p q.2) (E_call (Es_cons (E_var rfl) (Es_cons (E_sub (E_var rfl) E_lit rfl) Es_nil)) hx) (E_call (Es_cons (E_var rfl) (Es_cons (E_sub (E_var rfl) E_lit rfl) Es_nil)) hy) ?_)
  have hb : evT (callF Φ Λ nm FF4 (n + 2)) (.and (.cmp .isNot (.var 2) (.lit .non)) (.and (.cmp .le (.var 2) (.lit (.int 0))) (.or (.cmp .is (.var 3) (.lit .non)) (.cmp .le (.var 2) (.var 3))))) [.val (.int p), .val (encP q), .val (tvD p q.1), .val (tvD p q.2)] S = .ok (isB p q) S := by
    refine T_of (x := .bl (isB p q)) ?_ rfl
    unfold isB tvD
    by_cases x0 : q.1 = 0
    · rw [if_pos x0, decide_eq_false (fun z => z x0), Bool.false_and]
      exact E_and_f (x := .bl false) (E_cmp (E_var rfl) E_lit rfl) rfl
    · rw [if_neg x0, decide_eq_true x0, Bool.true_and]
      refine E_and_t (x := .bl true) (S1 := S) (E_cmp (E_var rfl) E_lit rfl) rfl ?_
      by_cases y0 : q.2 = 0
      · rw [if_pos y0, decide_eq_true y0, Bool.true_or]
        exact E_and_b (S1 := S) (E_cmp (E_var rfl) E_lit rfl) (E_or_t (x := .bl true) (E_cmp (E_var rfl) E_lit rfl) rfl)
      · rw [if_neg y0, decide_eq_false y0, Bool.false_or]
        exact E_and_b (S1 := S) (E_cmp (E_var rfl) E_lit rfl) (E_or_f (x := .bl false) (S1 := S) (E_cmp (E_var rfl) E_lit rfl) rfl (E_cmp (E_var rfl) (E_var rfl) rfl))
  unfold hueQ
  cases hB : isB p q with
  | true => rw [hB] at hb; exact R_ite_t hb rfl (R_ret E_lit)
  | false => rw [hB] at hb; exact R_ite_f hb rfl (R_ret (tail _ rfl))
/-- .. with a great number for 0 -/
def rv (p : Nat) (q : Rat) : Int := if q = 0 then 10 ^ 9 else vQ p q
theorem hue_rv (p : Nat) (q : Pnt) : hueQ p q = (if 0 < (if rv p q.2 < rv p q.1 then rv p q.2 else rv p q.1) then .a else if rv p q.1 ≤ rv p q.2 then .b else .c) := by
  unfold hueQ isB isC rv
  by_cases x0 : q.1 = 0 <;> by_cases y0 : q.2 = 0 <;> simp only [x0, y0, if_true, if_false, ne_eq, not_true_eq_false, not_false_eq_true, decide_true, decide_false, Bool.false_and, Bool.true_and, Bool.true_or, Bool.false_or, Bool.and_true, Bool.and_eq_true, decide_eq_true_eq, Bool.false_eq_true]
  · rfl
  · repeat' split
    all_goals first | rfl | omega
  · repeat' split
    all_goals first | rfl | omega
  · repeat' split
    all_goals first | rfl | omega
theorem sp_law_hue (ht : Φ 32 = some b__law_times) (h : Φ 33 = some b__law_hue) {p : Nat} (hp : 2 ≤ p) (hp2 : p < 1000) {q : Pnt} {k : Nat} (hk : LgP k q) (hk2 : k ≤ 2000) : callF Φ Λ nm FF4 (n + 2) (.fn 33) [.int p, encP q] S = .ok (encH (hueQ p q)) S := by
  refine call_ret h rfl (R_asg (d := .lst ([q.1, q.2].map fun r => .int (rv p r))) (S1 := S) (ρ1 := [.val (.int p), .val (encP q), .val (.lst [.int (rv p q.1), .int (rv p q.2)]), .none]) (E_comp (xs := [q.1, q.2].map encQ) (S1 := S) (I_over (E_var rfl) rfl) (compLoop_all (fun r => .int (rv p r)) fun r hr => ⟨_, rfl, elem_1 C_none ?_⟩) (Nat.le_of_ble_eq_true rfl)) rfl ?_)
  · have lr : Lg k r := by
      simp only [List.mem_cons, List.mem_nil_iff, or_false] at hr
      rcases hr with rfl | rfl
      · exact hk.1
      · exact hk.2
    unfold rv
    by_cases r0 : r = 0
    · rw [if_pos r0]
      have hn : r.num = 0 := by rw [r0]; rfl
      exact E_ite_t (x := .bl (decide (r.num = 0))) (E_cmp (E_sub (E_var rfl) E_lit rfl) E_lit (c_eq_int _ _)) (by rw [decide_eq_true hn]; rfl) (E_bin E_lit E_lit rfl)
    · rw [if_neg r0]
      exact E_ite_f (x := .bl (decide (r.num = 0))) (E_cmp (E_sub (E_var rfl) E_lit rfl) E_lit (c_eq_int _ _)) (by rw [decide_eq_false (num_ne r0)]; rfl) (E_call (Es_cons (E_var rfl) (Es_cons (E_var rfl) Es_nil)) (sp_law_times ht hp hp2 r0 lr hk2))
  · rw [hue_rv]
    have hc : evT (callF Φ Λ nm FF4 (n + 1)) (.cmp .gt (.bi .minL (.cons (.var 2) .nil)) (.lit (.int 0))) [.val (.int p), .val (encP q), .val (.lst [.int (rv p q.1), .int (rv p q.2)]), .none] S = .ok (decide (0 < (if rv p q.2 < rv p q.1 then rv p q.2 else rv p q.1))) S :=
      T_of (x := .bl (decide (0 < (if rv p q.2 < rv p q.1 then rv p q.2 else rv p q.1)))) (E_cmp (S1 := S) (x := .int (if rv p q.2 < rv p q.1 then rv p q.2 else rv p q.1)) (E_bi (Es_cons (E_var rfl) Es_nil) rfl) E_lit rfl) rfl
    by_cases h0 : 0 < (if rv p q.2 < rv p q.1 then rv p q.2 else rv p q.1)
    · rw [decide_eq_true h0] at hc
      rw [if_pos h0]
      exact R_ite_t hc rfl (R_ret E_lit)
    · rw [decide_eq_false h0] at hc
      rw [if_neg h0]
      refine R_ite_f hc rfl (R_ret ?_)
      have hd : evE (callF Φ Λ nm FF4 (n + 1)) (.cmp .le (.sub (.var 2) (.lit (.int 0))) (.sub (.var 2) (.lit (.int 1)))) [.val (.int p), .val (encP q), .val (.lst [.int (rv p q.1), .int (rv p q.2)]), .none] S = .ok (.bl (decide (rv p q.1 ≤ rv p q.2))) S := E_cmp (E_sub (E_var rfl) E_lit rfl) (E_sub (E_var rfl) E_lit rfl) rfl
      by_cases h2 : rv p q.1 ≤ rv p q.2
      · rw [decide_eq_true h2] at hd
        rw [if_pos h2]
        exact E_ite_t hd rfl E_lit
      · rw [decide_eq_false h2] at hd
        rw [if_neg h2]
        exact E_ite_f hd rfl E_lit
end
end Iv
/-! MS: values with something otherwise. -/
namespace Iv
open PySem Sh
/-! ### values of bounded depth, width, size -/
def Vl (w B : Nat) : Nat → D → Prop
  | _, .non => True
  | _, .bl _ => True
  | _, .int i => i.natAbs ≤ B
  | _, .str x => PyData.strOk x = true
  | k + 1, .tup xs => xs.length ≤ w ∧ ∀ x ∈ xs, Vl w B k x
  | k + 1, .lst xs => xs.length ≤ w ∧ ∀ x ∈ xs, Vl w B k x
  | _, _ => False
theorem Vl.mono {w B w' B' : Nat} (hw : w ≤ w') (hB : B ≤ B') : ∀ {k k' : Nat} {d : D}, k ≤ k' → Vl w B k d → Vl w' B' k' d
  | 0, k', d, _, h => by
    cases d <;> first | exact absurd h (fun z => z) | skip
    case non => cases k' <;> trivial
    case bl => cases k' <;> trivial
    case int i => cases k' <;> exact Nat.le_trans h hB
    case str x => cases k' <;> exact h
  | k + 1, 0, d, hk, h => absurd hk (by omega)
  | k + 1, k' + 1, d, hk, h => by
    cases d <;> first | exact absurd h (fun z => z) | skip
    case non => trivial
    case bl => trivial
    case int i => exact Nat.le_trans h hB
    case str x => exact h
    case tup xs => exact ⟨Nat.le_trans h.1 hw, fun x hx => Vl.mono hw hB (by omega) (h.2 x hx)⟩
    case lst xs => exact ⟨Nat.le_trans h.1 hw, fun x hx => Vl.mono hw hB (by omega) (h.2 x hx)⟩
theorem Vl.plain {w B k : Nat} {d : D} (h : Vl w B k d) : Plain d := by
  cases k <;> cases d <;> first | exact absurd h (fun z => z) | trivial
theorem Vl.item {w B k : Nat} {xs : List D} (h : Vl w B k (.tup xs)) : ∀ x ∈ xs, Vl w B k x := by
  intro x hx
  match k, h with
  | k + 1, h => exact Vl.mono (Nat.le_refl _) (Nat.le_refl _) (by omega) (h.2 x hx)
theorem Vl.plain1 {w B k : Nat} {d : D} (h : Vl w B k d) : Plain1 d := ⟨h.plain, fun xs e x hx => (Vl.item (e ▸ h) x hx).plain⟩
theorem Vl.plain2 {w B k : Nat} {d : D} (h : Vl w B k d) : Plain2 d := ⟨h.plain, fun xs e x hx => (Vl.item (e ▸ h) x hx).plain1⟩
mutual
theorem Vl.lay {w B : Nat} : ∀ {k : Nat} {d : D}, Vl w B k d → ∃ p, Lay d p k
  | k, .non, _ => ⟨_, .non k⟩
  | k, .bl b, _ => ⟨_, .bl b k⟩
  | k, .int i, _ => ⟨_, .int i k⟩
  | k, .str x, h => ⟨.str x, rfl, by
      have h : PyData.strOk x = true := by cases k <;> exact h
      simpa [PyData.canLay0] using h, by simp [PyData.depth]⟩
  | 0, .tup xs, h => absurd h (fun z => z)
  | 0, .lst xs, h => absurd h (fun z => z)
  | k + 1, .tup xs, h => by
    obtain ⟨ps, hp⟩ := Vl.layL xs h.2
    exact ⟨_, .tup hp⟩
  | k + 1, .lst xs, h => by
    obtain ⟨ps, hp⟩ := Vl.layL xs h.2
    exact ⟨_, .lst hp⟩
  | k, .obj n, h => absurd h (by cases k <;> exact fun z => z)
  | k, .fn n, h => absurd h (by cases k <;> exact fun z => z)
  | k, .clo n c, h => absurd h (by cases k <;> exact fun z => z)
theorem Vl.layL {w B k : Nat} : ∀ (xs : List D), (∀ x ∈ xs, Vl w B k x) → ∃ ps, LayL xs ps k
  | [], _ => ⟨[], .nil k⟩
  | x :: xs, h => by
    obtain ⟨p, hp⟩ := Vl.lay (h x (by simp))
    obtain ⟨ps, hps⟩ := Vl.layL xs fun y hy => h y (List.mem_cons_of_mem _ hy)
    exact ⟨_, .cons hp hps⟩
end
theorem c_ne_unit {xs : List D} {p : PyData} {k : Nat} (h : Lay (.tup xs) p k) (hk : k ≤ 64) : cmpO .ne (.tup xs) (.tup []) = some (!xs.isEmpty) := by
  rw [cmpO_ne, eqO_lay h (.tup (.nil 0)) hk (by decide)]
  have h1 := h.1
  cases xs with
  | nil => cases h1; simp [PyData.eqv, PyData.eqvAll]
  | cons x xs =>
    rw [toPy, toPys] at h1
    cases e1 : toPy x with
    | none => rw [e1] at h1; cases h1
    | some a =>
      rw [e1] at h1
      cases e2 : toPys xs with
      | none => rw [e2] at h1; cases h1
      | some b => rw [e2] at h1; cases h1; simp [PyData.eqv, PyData.eqvAll]
theorem cut_mem {α : Type} {xs : List α} {lo hi : Option Int} {x : α} (h : x ∈ cut xs lo hi) : x ∈ xs := List.mem_of_mem_drop (List.mem_of_mem_take h)
theorem cut_len {α : Type} {xs : List α} {lo hi : Option Int} : (cut xs lo hi).length ≤ xs.length := by
  unfold cut
  rw [List.length_take, List.length_drop]
  omega
theorem strOk_of (s : String) : PyData.strOk (Str.ofString s) = true := by
  rw [Str.ofString_eq_toList]
  unfold PyData.strOk
  rw [List.all_toArray]
  simp only [List.all_map, List.all_eq_true]
  intro c _
  have := c.valid
  simp only [Function.comp]
  rw [decide_eq_true_eq]
  rcases this with h | h
  · show c.val.toNat < _
    omega
  · show c.val.toNat < _
    omega
theorem mem6 {S : Store} {ds : List D} {r : Int} (h0 : 0 ≤ r) (h1 : r < ds.length) : ∃ d ∈ ds, subO (deref S (.lst ds)) (.int r) = some d := by
  have hl : r.toNat < ds.length := by omega
  refine ⟨ds[r.toNat], List.getElem_mem hl, ?_⟩
  show L2.atI ds r = _
  rw [atI_nat h0, List.getElem?_eq_getElem hl]
theorem str_fig {i : Int} (h : i.natAbs < 10 ^ 500) : biO .str [.int i] = some (.str (toString i)) := by
  refine if_pos ?_
  by_cases h0 : i.natAbs = 0
  · rw [h0]; decide
  · rw [Nat.log2_lt h0]
    exact Nat.lt_of_lt_of_le h (by decide +kernel)
section
variable {Φ : Nat → Option FnI} {Λ : Nat → Option LamI} {nm : Names}
abbrev esI : Exs := .cons (.bin .add (.var 1) (.lit (.int 1))) (.cons (.bin .sub (.var 1) (.lit (.int 1))) (.cons (.bin .mul (.lit (.int 2)) (.var 1)) (.cons (.lit (.bl true)) (.cons (.lit .non) (.cons (.bi .str (.cons (.var 1) .nil)) .nil)))))
abbrev esT : Exs := .cons (.bi .list (.cons (.var 1) .nil)) (.cons (.slice (.var 1) (.some (.lit (.int 1))) .none) (.cons (.bin .add (.var 1) (.slice (.var 1) (.some (.neg (.lit (.int 1)))) .none)) (.cons (.rev (.var 1)) (.cons (.lit .non) (.cons (.tup (.cons (.var 1) (.cons (.var 1) .nil))) .nil)))))
theorem sp_spoilt (hU : Φ 20 = some b__law_under) (h : Φ 34 = some b__law_spoilt) {w B m : Nat} (hw : w ≤ 100) (hB1 : 1 ≤ B) (hB : B < 10 ^ 500) :
    ∀ (k n : Nat) (d : D) (S : Store), Vl w B k d → k ≤ 60 → Vat m S → ∃ d' S', callF Φ Λ nm FF4 (n + k + 2) (.fn 34) [.obj m, d] S = .ok d' S' ∧ Vl (w + 2) (2 * B + 1) (k + 1) d' ∧ VS m S S' := by
  -- behind the first test
  have rest : ∀ (k n : Nat) (d : D) (S : Store) (a2 : Sl), Vl w B k d → k ≤ 60 → Vat m S → ∃ d' S', evSs (callF Φ Λ nm FF4 (n + 1)) nm FF4 (sxD b__law_spoilt.body 1) [.val (.obj m), .val d, a2, .none] S = .ok (.ret d') S' ∧ Vl (w + 2) (2 * B + 1) (k + 1) d' ∧ VS m S S' := by
    intro k n d S a2 hd hk v
    obtain ⟨r, S1, e1, r0, r1, v1⟩ := sp_under (Φ := Φ) (Λ := Λ) (nm := nm) (F := FF4) (n := n) hU v (k := 6) (by decide) (by decide)
    have up : Vl (w + 2) (2 * B + 1) k d := Vl.mono (by omega) (by omega) (Nat.le_refl _) hd
    have up1 : Vl (w + 2) (2 * B + 1) (k + 1) d := Vl.mono (by omega) (by omega) (by omega) hd
    have start : ∀ {r' : Rs Ou}, evSs (callF Φ Λ nm FF4 (n + 1)) nm FF4 (sxD b__law_spoilt.body 2) [.val (.obj m), .val d, a2, .val (.int r)] S1 = r' → evSs (callF Φ Λ nm FF4 (n + 1)) nm FF4 (sxD b__law_spoilt.body 1) [.val (.obj m), .val d, a2, .none] S = r' := fun h => R_asg (S1 := S1) (E_call (Es_cons (E_var rfl) (Es_cons E_lit Es_nil)) e1) rfl h
    have i1 : ∀ b, isa .tuple d = some b → evT (callF Φ Λ nm FF4 (n + 1)) (.isa .tuple (.var 1)) [.val (.obj m), .val d, a2, .val (.int r)] S1 = .ok b S1 := fun b hb => T_of (x := .bl b) (E_isa (E_var rfl) hb) rfl
    have i2 : ∀ b, isa .int d = some b → evT (callF Φ Λ nm FF4 (n + 1)) (.isa .int (.var 1)) [.val (.obj m), .val d, a2, .val (.int r)] S1 = .ok b S1 := fun b hb => T_of (x := .bl b) (E_isa (E_var rfl) hb) rfl
    have last : isa .tuple d = some false → isa .int d = some false → ∃ d' S', evSs (callF Φ Λ nm FF4 (n + 1)) nm FF4 (sxD b__law_spoilt.body 1) [.val (.obj m), .val d, a2, .none] S = .ok (.ret d') S' ∧ Vl (w + 2) (2 * B + 1) (k + 1) d' ∧ VS m S S' := fun h1 h2 =>
      ⟨.non, S1, start (R_ite_f (i1 _ h1) rfl (R_ite_f (i2 _ h2) rfl (R_ret E_lit))), trivial, v1⟩
    -- what is chosen among six
    have six : ∀ (es : Exs) (ds : List D), evEs (callF Φ Λ nm FF4 (n + 1)) es [.val (.obj m), .val d, a2, .val (.int r)] S1 = .ok ds S1 → ds.length = 6 → (∀ x ∈ ds, Vl (w + 2) (2 * B + 1) (k + 1) x) → ∃ d', (∀ ss : Sxs, evSs (callF Φ Λ nm FF4 (n + 1)) nm FF4 (.cons (.ret (.sub (.lst es) (.var 3))) ss) [.val (.obj m), .val d, a2, .val (.int r)] S1 = .ok (.ret d') S1) ∧ Vl (w + 2) (2 * B + 1) (k + 1) d' := fun es ds he hl hv => by
      obtain ⟨x, hx, ex⟩ := mem6 (S := S1) (ds := ds) r0 (by omega)
      exact ⟨x, fun ss => R_ret (E_sub (S1 := S1) (x := .lst ds) (E_lst he (by rw [hl]; rfl)) (E_var rfl) ex), hv x hx⟩
    cases d with
    | non => exact last rfl rfl
    | str x => exact last rfl rfl
    | lst xs => exact last rfl rfl
    | obj n => exact absurd hd (by cases k <;> exact fun z => z)
    | fn n => exact absurd hd (by cases k <;> exact fun z => z)
    | clo n c => exact absurd hd (by cases k <;> exact fun z => z)
    | bl b =>
      obtain ⟨d', ed, hv⟩ := six esI [.int (b2 b + 1), .int (b2 b - 1), .int (2 * b2 b), .bl true, .non, .str (if b then "True" else "False")] (Es_cons (E_bin (E_var rfl) E_lit rfl) (Es_cons (E_bin (E_var rfl) E_lit rfl) (Es_cons (E_bin E_lit (E_var rfl) rfl) (Es_cons E_lit (Es_cons E_lit (Es_cons (E_bi (Es_cons (E_var rfl) Es_nil) rfl) Es_nil)))))) rfl (by
        intro x hx
        have hb : 0 ≤ b2 b ∧ b2 b ≤ 1 := by cases b <;> decide
        simp only [List.mem_cons, List.mem_nil_iff, or_false] at hx
        rcases hx with rfl | rfl | rfl | rfl | rfl | rfl
        · show (b2 b + 1).natAbs ≤ 2 * B + 1; omega
        · show (b2 b - 1).natAbs ≤ 2 * B + 1; omega
        · show (2 * b2 b).natAbs ≤ 2 * B + 1; omega
        · trivial
        · trivial
        · show PyData.strOk _ = true
          cases b <;> exact strOk_of _)
      exact ⟨d', S1, start (R_ite_f (i1 _ rfl) rfl (R_ite_t (i2 _ rfl) rfl (ed _))), hv, v1⟩
    | int i =>
      have hi : i.natAbs ≤ B := by cases k <;> exact hd
      obtain ⟨d', ed, hv⟩ := six esI [.int (i + 1), .int (i - 1), .int (2 * i), .bl true, .non, .str (toString i)] (Es_cons (E_bin (E_var rfl) E_lit rfl) (Es_cons (E_bin (E_var rfl) E_lit rfl) (Es_cons (E_bin E_lit (E_var rfl) (B_mul (mulOk_fig (j := 1) (k := 500) (by decide) (by omega) (by decide) (by decide)))) (Es_cons E_lit (Es_cons E_lit (Es_cons (E_bi (Es_cons (E_var rfl) Es_nil) (str_fig (by omega))) Es_nil)))))) rfl (by
        intro x hx
        simp only [List.mem_cons, List.mem_nil_iff, or_false] at hx
        rcases hx with rfl | rfl | rfl | rfl | rfl | rfl
        · show (i + 1).natAbs ≤ 2 * B + 1; omega
        · show (i - 1).natAbs ≤ 2 * B + 1; omega
        · show (2 * i).natAbs ≤ 2 * B + 1; omega
        · trivial
        · trivial
        · exact strOk_of _)
      exact ⟨d', S1, start (R_ite_f (i1 _ rfl) rfl (R_ite_t (i2 _ rfl) rfl (ed _))), hv, v1⟩
    | tup xs =>
      match k, hd, up, up1 with
      | k + 1, hd, up, up1 =>
      have hl := hd.1
      have c1 := cut_len (xs := xs) (lo := some 1) (hi := none)
      have c2 := cut_len (xs := xs) (lo := some (-1)) (hi := none)
      have mm : ∀ x ∈ xs, Vl (w + 2) (2 * B + 1) (k + 1) x := fun x hx => Vl.mono (Nat.le_refl _) (Nat.le_refl _) (by omega) (up.2 x hx)
      have c3 : (cut xs (some (-1)) none).length ≤ 1 := by
        unfold cut
        rw [List.length_take, List.length_drop]
        have e1 : HT.sIx xs.length 0 (some (-1)) = xs.length - 1 := by
          show (if (-1 : Int) < 0 then (-1 + (xs.length : Int)).toNat else min (-1 : Int).toNat xs.length) = _
          rw [if_pos (by decide)]; omega
        have e2 : HT.sIx xs.length xs.length none = xs.length := HT.sIx_none xs.length xs.length
        rw [e1, e2]; omega
      obtain ⟨d', ed, hv⟩ := six esT [.lst xs, .tup (cut xs (some 1) none), .tup (xs ++ cut xs (some (-1)) none), .tup xs.reverse, .non, .tup [.tup xs, .tup xs]] (Es_cons (E_bi (Es_cons (E_var rfl) Es_nil) rfl) (Es_cons (E_slice (E_var rfl) (O_some E_lit) O_none rfl) (Es_cons (E_bin (E_var rfl) (E_slice (E_var rfl) (O_some (E_neg E_lit)) O_none rfl) (add_tup (by omega))) (Es_cons (E_rev (E_var rfl) rfl) (Es_cons E_lit (Es_cons (E_tup (Es_cons (E_var rfl) (Es_cons (E_var rfl) Es_nil)) rfl) Es_nil)))))) rfl (by
        intro x hx
        simp only [List.mem_cons, List.mem_nil_iff, or_false] at hx
        rcases hx with rfl | rfl | rfl | rfl | rfl | rfl
        · exact ⟨by omega, mm⟩
        · exact ⟨by omega, fun y hy => mm y (cut_mem hy)⟩
        · refine ⟨by rw [List.length_append]; omega, fun y hy => ?_⟩
          rcases List.mem_append.mp hy with hy | hy
          · exact mm y hy
          · exact mm y (cut_mem hy)
        · exact ⟨by rw [List.length_reverse]; omega, fun y hy => mm y (List.mem_reverse.mp hy)⟩
        · trivial
        · refine ⟨by simp, fun y hy => ?_⟩
          simp only [List.mem_cons, List.mem_nil_iff, or_false, or_self] at hy
          rw [hy]; exact up)
      exact ⟨d', S1, start (R_ite_t (i1 _ rfl) rfl (ed _)), hv, v1⟩
  intro k
  induction k with
  | zero =>
    intro n d S hd hk v
    obtain ⟨d', S', e, hv, vs⟩ := rest 0 n d S .none hd hk v
    refine ⟨d', S', ?_, hv, vs⟩
    have hi : isa .tuple d = some false := by cases d <;> first | rfl | exact absurd hd (fun z => z)
    exact call_ret h rfl (R_ite_f (S1 := S) (k := false) (T_of (x := .bl false) (E_and_f (x := .bl false) (E_isa (E_var rfl) hi) rfl) rfl) rfl e)
  | succ k ih =>
    intro n d S hd hk v
    by_cases ht : ∃ x xs, d = .tup (x :: xs)
    · obtain ⟨x, xs, rfl⟩ := ht
      generalize hX : x :: xs = X at hd
      have hne : X.isEmpty = false := by rw [← hX]; rfl
      have hpos : 0 < X.length := by rw [← hX]; simp
      obtain ⟨p, hp⟩ := hd.lay
      obtain ⟨r, S1, e1, r0, r1, v1⟩ := sp_under (Φ := Φ) (Λ := Λ) (nm := nm) (F := FF4) (n := n + k + 1) hU v (k := 5) (by decide) (by decide)
      have hc : evT (callF Φ Λ nm FF4 (n + k + 2)) (.and (.isa .tuple (.var 1)) (.and (.cmp .ne (.var 1) (.tup .nil)) (.cmp .gt (.call 20 (.cons (.var 0) (.cons (.lit (.int 5)) .nil))) (.lit (.int 0))))) [.val (.obj m), .val (.tup X), .none, .none] S = .ok (decide (0 < r)) S1 := by
        refine T_of (x := .bl (decide (0 < r))) (E_and_t (x := .bl true) (S1 := S) (E_isa (E_var rfl) rfl) rfl (E_and_t (x := .bl true) (S1 := S) (E_cmp (E_var rfl) (E_tup Es_nil rfl) ?_) rfl (E_cmp (S1 := S1) (E_call (Es_cons (E_var rfl) (Es_cons E_lit Es_nil)) e1) E_lit rfl))) rfl
        rw [c_ne_unit hp (by omega), hne]; rfl
      by_cases hr : 0 < r
      · rw [decide_eq_true hr] at hc
        obtain ⟨a, S2, e2, a0, a1, v2⟩ := sp_under (Φ := Φ) (Λ := Λ) (nm := nm) (F := FF4) (n := n + k + 1) hU v1.vat (k := X.length) (by omega) (by have := hd.1; omega)
        have hl : a.toNat < X.length := by omega
        obtain ⟨d', S3, e3, hv, v3⟩ := ih n (X[a.toNat]) S2 (hd.2 _ (List.getElem_mem hl)) (by omega) v2.vat
        have ea : subO (deref S2 (.tup X)) (.int a) = some X[a.toNat] := by
          show L2.atI X a = _
          rw [atI_nat a0, List.getElem?_eq_getElem hl]
        have hw2 := hd.1
        have s1 : sliceO (.tup X) none (some a) = some (.tup (X.take a.toNat)) := by
          show some (D.tup (cut X none (some a))) = _
          rw [cut_to _ a0]
        have s2 : sliceO (.tup X) (some (a + 1)) none = some (.tup (X.drop (a.toNat + 1))) := by
          show some (D.tup (cut X (some (a + 1)) none)) = _
          rw [cut_from _ (by omega), show (a + 1).toNat = a.toNat + 1 by omega]
        refine ⟨.tup (X.take a.toNat ++ [d'] ++ X.drop (a.toNat + 1)), S3, ?_, ?_, (v1.trans v2).trans v3⟩
        · refine call_ret h rfl (R_ite_t (S1 := S1) hc rfl (R_asg (S1 := S2) (d := .int a) (ρ1 := [.val (.obj m), .val (.tup X), .val (.int a), .none]) (E_call (Es_cons (E_var rfl) (Es_cons (E_bi (Es_cons (E_var rfl) Es_nil) rfl) Es_nil)) e2) rfl (R_ret (E_bin (S1 := S3) (E_bin (S1 := S2) (E_slice (E_var rfl) O_none (O_some (E_var rfl)) s1) (E_tup (S1 := S3) (ds := [d']) (Es_cons (S1 := S3) (E_call (S1 := S2) (ds := [.obj m, X[a.toNat]]) (Es_cons (E_var rfl) (Es_cons (E_sub (E_var rfl) (E_var rfl) ea) Es_nil)) e3) Es_nil) rfl) (add_tup ?_)) (E_slice (E_var rfl) (O_some (E_bin (E_var rfl) E_lit rfl)) O_none s2) (add_tup ?_)))))
          · rw [List.length_take]; simp only [List.length_cons, List.length_nil]; omega
          · rw [List.length_append, List.length_take, List.length_drop]; simp only [List.length_cons, List.length_nil]; omega
        · refine ⟨by rw [List.length_append, List.length_append, List.length_take, List.length_drop]; simp only [List.length_cons, List.length_nil]; omega, fun y hy => ?_⟩
          rcases List.mem_append.mp hy with hy | hy
          · rcases List.mem_append.mp hy with hy | hy
            · exact Vl.mono (by omega) (by omega) (by omega) (hd.2 y (List.mem_of_mem_take hy))
            · simp only [List.mem_cons, List.mem_nil_iff, or_false] at hy
              rw [hy]; exact hv
          · exact Vl.mono (by omega) (by omega) (by omega) (hd.2 y (List.mem_of_mem_drop hy))
      · rw [decide_eq_false hr] at hc
        obtain ⟨d', S', e, hv, vs⟩ := rest (k + 1) (n + k + 1) (.tup X) S1 .none hd hk v1.vat
        exact ⟨d', S', call_ret h rfl (R_ite_f (S1 := S1) hc rfl e), hv, v1.trans vs⟩
    · obtain ⟨d', S', e, hv, vs⟩ := rest (k + 1) (n + k + 1) d S .none hd hk v
      refine ⟨d', S', ?_, hv, vs⟩
      have hc : evT (callF Φ Λ nm FF4 (n + k + 2)) (.and (.isa .tuple (.var 1)) (.and (.cmp .ne (.var 1) (.tup .nil)) (.cmp .gt (.call 20 (.cons (.var 0) (.cons (.lit (.int 5)) .nil))) (.lit (.int 0))))) [.val (.obj m), .val d, .none, .none] S = .ok false S := by
        by_cases hn : d = .tup []
        · subst hn
          exact T_of (x := .bl false) (E_and_t (x := .bl true) (S1 := S) (E_isa (E_var rfl) rfl) rfl (E_and_f (x := .bl false) (E_cmp (E_var rfl) (E_tup Es_nil rfl) (c_ne_unit (.tup (.nil 0)) (by decide))) rfl)) rfl
        · have hi : isa .tuple d = some false := by
            cases d with
            | tup xs =>
              cases xs with
              | nil => exact absurd rfl hn
              | cons x xs => exact absurd ⟨x, xs, rfl⟩ ht
            | obj n => exact absurd hd (fun z => z)
            | fn n => exact absurd hd (fun z => z)
            | clo n c => exact absurd hd (fun z => z)
            | _ => rfl
          exact T_of (x := .bl false) (E_and_f (x := .bl false) (E_isa (E_var rfl) hi) rfl) rfl
      exact call_ret h rfl (R_ite_f (S1 := S) hc rfl e)
end
end Iv
/-! MTr: what is a triangle, of any value. -/
namespace Iv
open PySem Sh
theorem isFr_of {d : D} (h : isFr d = true) : ∃ q, d = encQ q ∧ qOk q = true := by
  unfold isFr at h
  split at h
  · rename_i x b
    rw [Bool.and_eq_true] at h
    obtain ⟨h1, h2⟩ := h
    cases x <;> first | exact absurd h2 Bool.false_ne_true | skip
    case int a =>
      simp only [isW, Bool.and_eq_true, decide_eq_true_eq] at h1 h2
      have g : Int.gcd a b = 1 := by omega
      obtain ⟨e1, e2⟩ := divInt_of (t := a) (b := b) (c := 1) (n := a) (d := b) (by decide) (by omega) (by omega) (by omega) g
      refine ⟨Rat.divInt a b, ?_, ?_⟩
      · show _ = D.tup [.int (Rat.divInt a b).num, .int (Rat.divInt a b).den]
        rw [e1, e2]
      · simp only [qOk, Bool.and_eq_true, decide_eq_true_eq]
        rw [e1, e2]
        omega
  · exact absurd h Bool.false_ne_true
theorem isPt_of {d : D} (h : isPt d = true) : ∃ p, d = encP p ∧ pOk p = true := by
  unfold isPt at h
  split at h
  · rename_i x y
    rw [Bool.and_eq_true] at h
    obtain ⟨q, rfl, hq⟩ := isFr_of h.1
    obtain ⟨r, rfl, hr⟩ := isFr_of h.2
    exact ⟨(q, r), rfl, by unfold pOk; rw [hq, hr]; rfl⟩
  · exact absurd h Bool.false_ne_true
abbrev p4 (p : Pnt) : P4 := ((p.1.num, (p.1.den : Int)), (p.2.num, (p.2.den : Int)))
theorem c_ne_q (x y : Rat) : cmpO .ne (encQ x) (encQ y) = some (!decide (x = y)) := by
  rw [cmpO_ne, eqO_lay (layQ x 0) (layQ y 0) (by decide) (by decide)]
  have e : PyData.eqv (.tuple [.int x.num, .int x.den]) (.tuple [.int y.num, .int y.den]) = decide (x = y) := by
    rw [Bool.eq_iff_iff, decide_eq_true_eq]
    simp only [PyData.eqv, PyData.eqvAll, Bool.and_eq_true, beq_iff_eq, Bool.and_true]
    constructor
    · rintro ⟨h1, h2⟩
      exact Rat.ext h1 (by omega)
    · rintro rfl
      exact ⟨rfl, rfl⟩
  rw [e]; rfl
theorem c_eq_q (x y : Rat) : cmpO .eq (encQ x) (encQ y) = some (decide (x = y)) := by
  have := c_ne_q x y
  rw [cmpO_ne] at this
  rw [cmpO_eq]
  cases h : eqO (encQ x) (encQ y) with
  | none => rw [h] at this; cases this
  | some b =>
    rw [h] at this
    have : (!b) = !decide (x = y) := Option.some.inj this
    rw [Bool.not_inj_iff.mp this] 
theorem c_lt_p (a b : Pnt) : cmpO .lt (encP a) (encP b) = some (decide (LtP (p4 a) (p4 b))) := by
  have al : PySem.W.alike (ptP a) (ptP b) = true := by simp [PySem.W.alike, PySem.W.alikeAll]
  have sh : SeqAt.shaped (ptP a) = true := by
    have := layP a 0
    unfold SeqAt.shaped
    rw [this.2.1, decide_eq_true (Nat.le_trans this.2.2 (by decide))]; rfl
  show (match toPy (encP a) with
    | some a => match toPy (encP b) with
      | some b => if PySem.W.alike a b && SeqAt.shaped a then some (PySem.W.dataLt a b) else none
      | none => none
    | none => none) = _
  rw [(layP a 0).1, (layP b 0).1]
  show (if PySem.W.alike (ptP a) (ptP b) && SeqAt.shaped (ptP a) then some (PySem.W.dataLt (ptP a) (ptP b)) else none) = _
  rw [al, sh, ← lt_pt]; rfl
theorem lay4 (p : P4) (k : Nat) : Lay (encP4 p) (ptD p) (k + 2) := .tup (.cons (.tup (.cons (.int _ _) (.cons (.int _ _) (.nil _)))) (.cons (.tup (.cons (.int _ _) (.cons (.int _ _) (.nil _)))) (.nil _)))
theorem eqv_p4 (p q : P4) : PyData.eqv (ptD p) (ptD q) = decide (p = q) := by
  obtain ⟨⟨a, b⟩, c, d⟩ := p
  obtain ⟨⟨a', b'⟩, c', d'⟩ := q
  rw [Bool.eq_iff_iff, decide_eq_true_eq]
  simp [ptD, PyData.eqv, PyData.eqvAll, and_assoc]
theorem eqv_p4s : ∀ ps qs : List P4, PyData.eqvAll (ps.map ptD) (qs.map ptD) = decide (ps = qs)
  | [], [] => by simp [PyData.eqvAll]
  | [], q :: qs => by simp [PyData.eqvAll]
  | p :: ps, [] => by simp [PyData.eqvAll]
  | p :: ps, q :: qs => by
    rw [List.map_cons, List.map_cons, PyData.eqvAll, eqv_p4, eqv_p4s ps qs, Bool.eq_iff_iff]
    simp
theorem c_eq_p4s (ps qs : List P4) : cmpO .eq (.lst (ps.map encP4)) (.lst (qs.map encP4)) = some (decide (ps = qs)) := by
  rw [cmpO_eq, eqO_lay (.lst (LayL.map (q := ptD) (k := 2) fun p _ => lay4 p 0)) (.lst (LayL.map (q := ptD) (k := 2) fun p _ => lay4 p 0)) (by decide) (by decide), ← eqv_p4s]
  simp [PyData.eqv]
theorem psort3 (a b c : P4) : decide ([a, b, c] = psort [a, b, c]) = (decide (LtP a b) && decide (LtP b c)) := by
  rw [Bool.eq_iff_iff, Bool.and_eq_true, decide_eq_true_eq, decide_eq_true_eq, decide_eq_true_eq]
  constructor
  · intro h
    have := psort_asc (l := [a, b, c])
    rw [← h] at this
    simp only [List.pairwise_cons, List.mem_cons, List.mem_nil_iff, or_false, forall_eq_or_imp, forall_eq] at this
    exact ⟨this.1.1, this.2.1⟩
  · rintro ⟨h1, h2⟩
    refine ascP_uniq ?_ psort_asc fun x => psort_mem.symm
    simp only [List.pairwise_cons, List.mem_cons, List.mem_nil_iff, or_false, forall_eq_or_imp, forall_eq]
    exact ⟨⟨h1, h1.trans h2⟩, h2, fun _ h => absurd h (by simp), .nil⟩
def trB (t : Trg) : Bool := decide (LtP (p4 t.1) (p4 t.2.1)) && decide (LtP (p4 t.2.1) (p4 t.2.2)) && !decide (ar t = 0)
/-- the triangle that a value is, if it is one by its fractions -/
def IsT (d : D) (t : Trg) : Prop := d = encT t ∧ tOk t = true
theorem isT_of {x y z : D} (h1 : isPt x = true) (h2 : isPt y = true) (h3 : isPt z = true) : ∃ t, IsT (.tup [x, y, z]) t := by
  obtain ⟨a, rfl, ha⟩ := isPt_of h1
  obtain ⟨b, rfl, hb⟩ := isPt_of h2
  obtain ⟨c, rfl, hc⟩ := isPt_of h3
  exact ⟨(a, b, c), rfl, by unfold tOk; rw [ha, hb, hc]; rfl⟩
section
variable {Φ : Nat → Option FnI} {Λ : Nat → Option LamI} {nm : Names} {n : Nat} {S : Store} {w B k : Nat}
theorem any_law_is_point (hw : Φ 22 = some b__law_is_whole) (hg : Φ 24 = some b__law_gcd) (hf : Φ 27 = some b__law_is_fraction) (h : Φ 28 = some b__law_is_point) {d : D} (hd : Vl w B k d) (hk : k < 60) : callF Φ Λ nm FF4 (n + 3) (.fn 28) [d] S = .ok (.bl (isPt d)) S := by
  have h1 := hd.plain
  have long : ∀ xs : List D, xs.length ≠ 2 → callF Φ Λ nm FF4 (n + 3) (.fn 28) [.tup xs] S = .ok (.bl false) S := fun xs hl => by
    refine call_ret h rfl (R_ret (E_and_t (x := .bl true) (S1 := S) (E_isa (E_var rfl) rfl) rfl (E_and_f (x := .bl false) (E_cmp (x := .int xs.length) (S1 := S) (E_bi (Es_cons (E_var rfl) Es_nil) rfl) E_lit ?_) rfl)))
    rw [c_eq_int, decide_eq_false (by omega)]
  cases d <;> try (exact absurd h1 (fun z => z))
  case tup xs =>
    match xs, hd with
    | [], _ => exact long [] (by simp)
    | [x], _ => exact long [x] (by simp)
    | x :: y :: z :: r, _ => exact long (x :: y :: z :: r) (by simp)
    | [x, y], hd =>
      have hi := hd.item
      obtain ⟨ps, hps⟩ := Vl.layL ([x, y].filter fun z => !isFr z) fun z hz => hi z ((List.mem_filter.mp hz).1)
      have hn := c_eq_nil hps (by omega)
      have e : isPt (.tup [x, y]) = ([x, y].filter fun z => !isFr z).isEmpty := by
        show (isFr x && isFr y) = _
        cases h1 : isFr x <;> cases h2 : isFr y <;> simp [List.filter_cons, h1, h2]
      rw [e]
      refine call_ret h rfl (R_ret (E_and_t (x := .bl true) (S1 := S) (E_isa (E_var rfl) rfl) rfl (E_and_t (x := .bl true) (S1 := S) (E_cmp (E_bi (Es_cons (E_var rfl) Es_nil) rfl) E_lit (c_eq_int 2 2)) rfl
        (E_cmp (S1 := S) (x := .lst ([x, y].filter fun z => !isFr z)) (E_comp (S1 := S) (xs := [x, y].map fun z => z) (I_over (E_var rfl) rfl) ?_ (Nat.le_trans (List.length_filter_le _ _) (Nat.le_of_ble_eq_true rfl))) (E_lst Es_nil rfl) hn))))
      have := compLoop_filter (S := S) (ρ := [.val (.tup [x, y]), .none]) (p := .nm 1) (g := fun z => z) (f := elemB (fun ρ1 S => evC (callF Φ Λ nm FF4 (n + 2)) (.some (.not (.call 27 (.cons (.var 1) .nil)))) ρ1 S) (fun ρ1 S => evE (callF Φ Λ nm FF4 (n + 2)) (.var 1) ρ1 S)) (fun z => !isFr z) (fun z => z) (l := [x, y]) fun z hz => ⟨_, rfl, elem_b (C_some (x := .bl (!isFr z)) (E_not (E_call (Es_cons (E_var rfl) Es_nil) (any_law_is_fraction hw hg hf (hi z hz).plain1)) rfl) rfl) fun _ => E_var rfl⟩
      simp only [List.map_id'] at this ⊢
      exact this
  all_goals exact call_ret h rfl (R_ret (E_and_f (x := .bl false) (E_isa (E_var rfl) rfl) rfl))
theorem pt4 (t : Trg) : ptsO [encP t.1, encP t.2.1, encP t.2.2] = some [p4 t.1, p4 t.2.1, p4 t.2.2] := rfl
structure TriDefs (Φ : Nat → Option FnI) : Prop where
  whole : Φ 1 = some b_is_whole
  common : Φ 0 = some b_common_of
  frac : Φ 2 = some b_is_fraction
  point : Φ 3 = some b_is_point
  low : Φ 4 = some b_low_points
  minus : Φ 5 = some b_minus
  times : Φ 6 = some b_times
  turn : Φ 7 = some b_turn_of
  size : Φ 8 = some b_size_of
  tri : Φ 9 = some b_is_good_triangle
structure LawDefs (Φ : Nat → Option FnI) : Prop where
  whole : Φ 22 = some b__law_is_whole
  gcd : Φ 24 = some b__law_gcd
  low : Φ 25 = some b__law_low
  sum : Φ 26 = some b__law_sum
  frac : Φ 27 = some b__law_is_fraction
  point : Φ 28 = some b__law_is_point
  cross : Φ 29 = some b__law_cross
  size : Φ 30 = some b__law_size
  tri : Φ 31 = some b__law_is_triangle
theorem good_tri (D : TriDefs Φ) {t : Trg} (ht : tOk t = true) : callF Φ Λ nm FF4 (n + 6) (.fn 9) [encT t] S = .ok (.bl (trB t)) S := by
  obtain ⟨l1, l2, l3⟩ := tok_lg ht
  have hp : ∀ z ∈ [t.1, t.2.1, t.2.2], callF Φ Λ nm FF4 (n + 5) (.fn 3) [encP z] S = .ok (.bl true) S := fun z hz => by
    have hz2 : pOk z = true := by
      simp only [tOk, Bool.and_eq_true] at ht
      simp only [List.mem_cons, List.mem_nil_iff, or_false] at hz
      rcases hz with rfl | rfl | rfl
      · exact ht.1
      · exact ht.2.1
      · exact ht.2.2
    simp only [pOk, Bool.and_eq_true] at hz2
    have e : isPt (encP z) = true := by
      have f : ∀ q : Rat, qOk q = true → isFr (encQ q) = true := fun q hq => by
        have hd := den_pos q
        have hg := gcd_q q
        simp only [qOk, Bool.and_eq_true, decide_eq_true_eq] at hq
        simp only [isFr, isW, Bool.and_eq_true, decide_eq_true_eq]
        omega
      show (isFr _ && isFr _) = true
      rw [f _ hz2.1, f _ hz2.2]; rfl
    rw [← e]
    exact any_is_point D.whole D.common D.frac D.point ⟨trivial, fun xs ex x hx => by
      cases ex
      simp only [List.mem_cons, List.mem_nil_iff, or_false] at hx
      rcases hx with rfl | rfl <;> exact ⟨trivial, fun ys ey y hy => by
        cases ey
        simp only [List.mem_cons, List.mem_nil_iff, or_false] at hy
        rcases hy with rfl | rfl <;> trivial⟩⟩
  have ha : evE (callF Φ Λ nm FF4 (n + 5)) (.bi .all (.cons (.comp (.over (.var 0)) (.nm 1) [1] .none (.call 3 (.cons (.var 1) .nil))) .nil)) (frameN 2 [encT t]) S = .ok (.bl ([t.1, t.2.1, t.2.2].all fun _ => true)) S :=
    E_bi (S1 := S) (ds := [.lst ([t.1, t.2.1, t.2.2].map fun _ => .bl true)]) (Es_cons (S1 := S) (E_comp (S1 := S) (xs := [t.1, t.2.1, t.2.2].map encP) (I_over (E_var rfl) rfl) (compLoop_all (fun _ => .bl true) fun z hz => ⟨_, rfl, elem_1 C_none (E_call (S1 := S) (Es_cons (E_var rfl) Es_nil) (hp z hz))⟩) (Nat.le_of_ble_eq_true rfl)) Es_nil) (all_map (fun _ => true) [t.1, t.2.1, t.2.2])
  refine call_ret D.tri rfl (R_ite_f (S1 := S) (k := false) (T_of (x := .bl false) (E_or_f (x := .bl false) (S1 := S) (E_not (k := true) (E_isa (E_var rfl) rfl) rfl) rfl (E_or_f (x := .bl false) (S1 := S) (E_cmp (E_bi (Es_cons (E_var rfl) Es_nil) rfl) E_lit (c_ne_int 3 3)) rfl (E_not (k := true) ha rfl))) rfl) rfl
    (R_ret (E_and_b (S1 := S) (E_chain (S1 := S) (S2 := S) (x := encP t.1) (y := encP t.2.1) (z := encP t.2.2) (E_sub (E_var rfl) E_lit rfl) (E_sub (E_var rfl) E_lit rfl) (c_lt_p _ _) (E_sub (E_var rfl) E_lit rfl) (c_lt_p _ _)) (E_cmp (S1 := S) (x := encQ (ar t)) (y := encQ 0) (E_call (Es_cons (E_var rfl) Es_nil) (sp_size_of D.common D.low D.minus D.times D.turn D.size l1 l2 l3 (by decide))) (E_tup (Es_cons E_lit (Es_cons E_lit Es_nil)) rfl) (c_ne_q _ _)))))
theorem law_tri (D : LawDefs Φ) {t : Trg} (ht : tOk t = true) : callF Φ Λ nm FF4 (n + 6) (.fn 31) [encT t] S = .ok (.bl (trB t)) S := by
  obtain ⟨l1, l2, l3⟩ := tok_lg ht
  have hp : ∀ z ∈ [t.1, t.2.1, t.2.2], callF Φ Λ nm FF4 (n + 5) (.fn 28) [encP z] S = .ok (.bl true) S := fun z hz => by
    have hz2 : pOk z = true ∧ LgP 7 z := by
      simp only [tOk, Bool.and_eq_true] at ht
      simp only [List.mem_cons, List.mem_nil_iff, or_false] at hz
      rcases hz with rfl | rfl | rfl
      · exact ⟨ht.1, l1⟩
      · exact ⟨ht.2.1, l2⟩
      · exact ⟨ht.2.2, l3⟩
    rw [← hz2.1]
    exact sp_law_is_point D.whole D.gcd D.frac D.point hz2.2 (by decide)
  have hf : ([t.1, t.2.1, t.2.2].filter fun _ => false) = [] := by simp
  have ha : evE (callF Φ Λ nm FF4 (n + 5)) (.cmp .ne (.comp (.over (.var 0)) (.nm 1) [1] (.some (.not (.call 28 (.cons (.var 1) .nil)))) (.var 1)) (.lst .nil)) (frameN 2 [encT t]) S = .ok (.bl false) S := by
    refine E_cmp (S1 := S) (x := .lst (([t.1, t.2.1, t.2.2].filter fun _ => false).map encP)) (E_comp (S1 := S) (xs := [t.1, t.2.1, t.2.2].map encP) (I_over (E_var rfl) rfl) (compLoop_filter (fun _ => false) encP fun z hz => ⟨_, rfl, elem_b (C_some (x := .bl false) (E_not (k := true) (E_call (Es_cons (E_var rfl) Es_nil) (hp z hz)) rfl) rfl) fun _ => E_var rfl⟩) (by rw [hf]; exact Nat.zero_le _)) (E_lst Es_nil rfl) ?_
    rw [hf]
    exact c_ne_nil (.nil 0) (by decide)
  have e3 : trB t = (decide ([p4 t.1, p4 t.2.1, p4 t.2.2] = psort [p4 t.1, p4 t.2.1, p4 t.2.2]) && !decide (ar t = 0)) := by rw [psort3]; rfl
  rw [e3]
  exact call_ret D.tri rfl (R_ite_f (S1 := S) (k := false) (T_of (x := .bl false) (E_or_f (x := .bl false) (S1 := S) (E_not (k := true) (E_isa (E_var rfl) rfl) rfl) rfl (E_or_f (x := .bl false) (S1 := S) (E_cmp (E_bi (Es_cons (E_var rfl) Es_nil) rfl) E_lit (c_ne_int 3 3)) rfl ha)) rfl) rfl
    (R_ret (E_and_b (S1 := S) (E_cmp (S1 := S) (x := .lst ([p4 t.1, p4 t.2.1, p4 t.2.2].map encP4)) (y := .lst ((psort [p4 t.1, p4 t.2.1, p4 t.2.2]).map encP4)) (E_bi (Es_cons (E_var rfl) Es_nil) rfl) (E_bi (Es_cons (E_var rfl) Es_nil) rfl) (c_eq_p4s _ _)) (E_cmp (S1 := S) (x := encQ (ar t)) (y := encQ 0) (E_call (Es_cons (E_var rfl) Es_nil) (sp_law_size D.gcd D.low D.sum D.cross D.size l1 l2 l3 (by decide))) (E_tup (Es_cons E_lit (Es_cons E_lit Es_nil)) rfl) (c_ne_q _ _)))))
/-- of any value both say the same -/
theorem tri_any (D1 : TriDefs Φ) (D2 : LawDefs Φ) {d : D} (n' : Nat) (hd : Vl w B k d) (hk : k < 60) : ∃ b, callF Φ Λ nm FF4 (n + 6) (.fn 9) [d] S = .ok (.bl b) S ∧ callF Φ Λ nm FF4 (n' + 6) (.fn 31) [d] S = .ok (.bl b) S ∧ (b = true → ∃ t, IsT d t ∧ trB t = true) := by
  by_cases hT : ∃ t, IsT d t
  · obtain ⟨t, rfl, ht⟩ := hT
    exact ⟨_, good_tri D1 ht, law_tri D2 ht, fun h => ⟨t, ⟨rfl, ht⟩, h⟩⟩
  refine ⟨false, ?_, ?_, fun h => absurd h Bool.false_ne_true⟩
  · have h1 := hd.plain
    have long : ∀ xs : List D, xs.length ≠ 3 → callF Φ Λ nm FF4 (n + 6) (.fn 9) [.tup xs] S = .ok (.bl false) S := fun xs hl => by
      refine call_ret D1.tri rfl (R_ite_t (S1 := S) (k := true) (T_of (x := .bl true) (E_or_f (x := .bl false) (S1 := S) (E_not (k := true) (E_isa (E_var rfl) rfl) rfl) rfl (E_or_t (x := .bl true) (S1 := S) (E_cmp (x := .int xs.length) (S1 := S) (E_bi (Es_cons (E_var rfl) Es_nil) rfl) E_lit ?_) rfl)) rfl) rfl (R_ret E_lit))
      rw [c_ne_int, decide_eq_false (by omega)]; rfl
    cases d <;> try (exact absurd h1 (fun z => z))
    case tup xs =>
      match xs, hd, hT with
      | [], _, _ => exact long [] (by simp)
      | [x], _, _ => exact long [x] (by simp)
      | [x, y], _, _ => exact long [x, y] (by simp)
      | x :: y :: z :: u :: r, _, _ => exact long (x :: y :: z :: u :: r) (by simp)
      | [x, y, z], hd, hT =>
        have hi := hd.item
        have hne : ([x, y, z].all isPt) = false := by
          cases e : [x, y, z].all isPt with
          | false => rfl
          | true =>
            simp only [List.all_cons, List.all_nil, Bool.and_true, Bool.and_eq_true] at e
            exact absurd (isT_of e.1 e.2.1 e.2.2) hT
        have ha : evE (callF Φ Λ nm FF4 (n + 5)) (.bi .all (.cons (.comp (.over (.var 0)) (.nm 1) [1] .none (.call 3 (.cons (.var 1) .nil))) .nil)) (frameN 2 [.tup [x, y, z]]) S = .ok (.bl ([x, y, z].all isPt)) S :=
          E_bi (S1 := S) (ds := [.lst ([x, y, z].map fun z => .bl (isPt z))]) (Es_cons (S1 := S) (E_comp (S1 := S) (xs := [x, y, z].map fun z => z) (I_over (E_var rfl) rfl) (compLoop_all (fun z => .bl (isPt z)) fun z hz => ⟨_, rfl, elem_1 C_none (E_call (S1 := S) (Es_cons (E_var rfl) Es_nil) (any_is_point D1.whole D1.common D1.frac D1.point (hi z hz).plain2))⟩) (Nat.le_of_ble_eq_true rfl)) Es_nil) (all_map isPt [x, y, z])
        rw [hne] at ha
        exact call_ret D1.tri rfl (R_ite_t (S1 := S) (k := true) (T_of (x := .bl true) (E_or_f (x := .bl false) (S1 := S) (E_not (k := true) (E_isa (E_var rfl) rfl) rfl) rfl (E_or_f (x := .bl false) (S1 := S) (E_cmp (E_bi (Es_cons (E_var rfl) Es_nil) rfl) E_lit (c_ne_int 3 3)) rfl (E_not (k := false) ha rfl))) rfl) rfl (R_ret E_lit))
    all_goals exact call_ret D1.tri rfl (R_ite_t (S1 := S) (k := true) (T_of (x := .bl true) (E_or_t (x := .bl true) (S1 := S) (E_not (k := false) (E_isa (E_var rfl) rfl) rfl) rfl) rfl) rfl (R_ret E_lit))
  · have h1 := hd.plain
    have long : ∀ xs : List D, xs.length ≠ 3 → callF Φ Λ nm FF4 (n' + 6) (.fn 31) [.tup xs] S = .ok (.bl false) S := fun xs hl => by
      refine call_ret D2.tri rfl (R_ite_t (S1 := S) (k := true) (T_of (x := .bl true) (E_or_f (x := .bl false) (S1 := S) (E_not (k := true) (E_isa (E_var rfl) rfl) rfl) rfl (E_or_t (x := .bl true) (S1 := S) (E_cmp (x := .int xs.length) (S1 := S) (E_bi (Es_cons (E_var rfl) Es_nil) rfl) E_lit ?_) rfl)) rfl) rfl (R_ret E_lit))
      rw [c_ne_int, decide_eq_false (by omega)]; rfl
    cases d <;> try (exact absurd h1 (fun z => z))
    case tup xs =>
      match xs, hd, hT with
      | [], _, _ => exact long [] (by simp)
      | [x], _, _ => exact long [x] (by simp)
      | [x, y], _, _ => exact long [x, y] (by simp)
      | x :: y :: z :: u :: r, _, _ => exact long (x :: y :: z :: u :: r) (by simp)
      | [x, y, z], hd, hT =>
        have hi := hd.item
        have hne : ([x, y, z].filter fun z => !isPt z).isEmpty = false := by
          cases e : ([x, y, z].filter fun z => !isPt z).isEmpty with
          | false => rfl
          | true =>
            rw [List.isEmpty_iff, List.filter_eq_nil_iff] at e
            simp only [List.mem_cons, List.mem_nil_iff, or_false, forall_eq_or_imp, forall_eq, Bool.not_eq_true', Bool.not_eq_false] at e
            exact absurd (isT_of e.1 e.2.1 e.2.2) hT
        obtain ⟨ps, hps⟩ := Vl.layL ([x, y, z].filter fun z => !isPt z) fun u hu => hi u ((List.mem_filter.mp hu).1)
        have hn := c_ne_nil hps (by omega)
        rw [hne] at hn
        have ha : evE (callF Φ Λ nm FF4 (n' + 5)) (.cmp .ne (.comp (.over (.var 0)) (.nm 1) [1] (.some (.not (.call 28 (.cons (.var 1) .nil)))) (.var 1)) (.lst .nil)) (frameN 2 [.tup [x, y, z]]) S = .ok (.bl true) S := by
          refine E_cmp (S1 := S) (x := .lst ([x, y, z].filter fun z => !isPt z)) (E_comp (S1 := S) (xs := [x, y, z].map fun z => z) (I_over (E_var rfl) rfl) ?_ (Nat.le_trans (List.length_filter_le _ _) (Nat.le_of_ble_eq_true rfl))) (E_lst Es_nil rfl) hn
          have := compLoop_filter (S := S) (ρ := [.val (.tup [x, y, z]), .none]) (p := .nm 1) (g := fun z => z) (f := elemB (fun ρ1 S => evC (callF Φ Λ nm FF4 (n' + 5)) (.some (.not (.call 28 (.cons (.var 1) .nil)))) ρ1 S) (fun ρ1 S => evE (callF Φ Λ nm FF4 (n' + 5)) (.var 1) ρ1 S)) (fun z => !isPt z) (fun z => z) (l := [x, y, z]) fun z hz => ⟨_, rfl, elem_b (C_some (x := .bl (!isPt z)) (E_not (E_call (Es_cons (E_var rfl) Es_nil) (any_law_is_point (n := n' + 2) D2.whole D2.gcd D2.frac D2.point (hi z hz) hk)) rfl) rfl) fun _ => E_var rfl⟩
          simp only [List.map_id'] at this ⊢
          exact this
        exact call_ret D2.tri rfl (R_ite_t (S1 := S) (k := true) (T_of (x := .bl true) (E_or_f (x := .bl false) (S1 := S) (E_not (k := true) (E_isa (E_var rfl) rfl) rfl) rfl (E_or_f (x := .bl false) (S1 := S) (E_cmp (E_bi (Es_cons (E_var rfl) Es_nil) rfl) E_lit (c_ne_int 3 3)) rfl ha)) rfl) rfl (R_ret E_lit))
    all_goals exact call_ret D2.tri rfl (R_ite_t (S1 := S) (k := true) (T_of (x := .bl true) (E_or_t (x := .bl true) (S1 := S) (E_not (k := false) (E_isa (E_var rfl) rfl) rfl) rfl) rfl) rfl (R_ret E_lit))
end
end Iv
namespace K01
open PySem Iv Sh
def clT : List (Str × List Bool × Str) := [("InvalidPrime", [false, false, false, true, false, false, false, false, false, false, false, false, false, false, false, false, false, false, false, false, true], Str.ofString "prime value"), ("InvalidFraction", [false, false, false, false, true, false, false, false, false, false, false, false, false, false, false, false, false, false, false, false, true], Str.ofString "fraction value"), ("InvalidPoint", [false, false, false, false, false, true, false, false, false, false, false, false, false, false, false, false, false, false, false, false, true], Str.ofString "point value"), ("InvalidTriangle", [false, false, false, false, false, false, true, false, false, false, false, false, false, false, false, false, false, false, false, false, true], Str.ofString "triangle value")]
def clI (c : Nat) : Str × List Bool × Str := clT.getD (([0, 0, 0, 0, 1, 2, 3, 0, 0, 0, 0, 0, 0, 0, 0, 0, 0, 0, 0, 0] : List Nat).getD c 0) ("InvalidPrime", [], Str.ofString "")
def NM : Names := fun c => (clI c).2.2
def PHI : Nat → Option FnI := fun i => ([(0, b_common_of), (1, b_is_whole), (2, b_is_fraction), (3, b_is_point), (4, b_low_points), (5, b_minus), (6, b_times), (7, b_turn_of), (8, b_size_of), (9, b_is_good_triangle), (10, b_divides), (11, b_times_in), (12, b_hue_of), (13, b_is_prime), (14, b_need_prime), (15, b_stands), (16, b_hue), (17, b_is_triangle), (18, b_size), (19, b__law_vat), (20, b__law_under), (21, b__law_some), (22, b__law_is_whole), (23, b__law_truly), (24, b__law_gcd), (25, b__law_low), (26, b__law_sum), (27, b__law_is_fraction), (28, b__law_is_point), (29, b__law_cross), (30, b__law_size), (31, b__law_is_triangle), (32, b__law_times), (33, b__law_hue), (34, b__law_spoilt), (36, b__law_error), (37, b__law_all_refused), (38, b__law_known), (39, b__law_bad_primes), (40, b__law_fraction_01), (41, b__law_refused_01), (42, b_law_01)] : List (Nat × FnI)).lookup i
def lamL : List (Nat × LamI) := [(0, l_0), (1, l_1), (2, l_2), (3, l_3)]
def LAM : Nat → Option LamI := fun i => lamL.lookup i
def FF : Nat := 10 ^ 4000
end K01
set_option maxHeartbeats 4000000
namespace K01
open PySem PySem.Spec PyProof.Rows L2 Iv Sh
def topS (i : Nat) : Stmt := PySem.Challenge.pw_oddcuts_k01_points_and_triangles.main.body.getD i (.Pass ⟨0, 0, 0, 0⟩)
abbrev st_common_of : Stmt := topS 25
abbrev st_is_whole : Stmt := topS 26
abbrev st_is_fraction : Stmt := topS 27
abbrev st_is_point : Stmt := topS 28
abbrev st_low : Stmt := topS 29
abbrev st_minus : Stmt := topS 30
abbrev st_times : Stmt := topS 31
abbrev st_turn_of : Stmt := topS 32
abbrev st_size_of : Stmt := topS 33
abbrev st_is_good_triangle : Stmt := topS 34
abbrev st_divides : Stmt := topS 35
abbrev st_times_in : Stmt := topS 36
abbrev st_hue_of : Stmt := topS 37
abbrev st_is_prime : Stmt := topS 38
abbrev st_need_prime : Stmt := topS 39
abbrev st_stands : Stmt := topS 40
abbrev st_hue : Stmt := topS 41
abbrev st_is_triangle : Stmt := topS 42
abbrev st_size : Stmt := topS 43
abbrev st__law_vat : Stmt := topS 45
abbrev st__law_under : Stmt := topS 46
abbrev st__law_some : Stmt := topS 47
abbrev st__law_is_whole : Stmt := topS 48
abbrev st__law_truly : Stmt := topS 49
abbrev st__law_gcd : Stmt := topS 50
abbrev st__law_low : Stmt := topS 51
abbrev st__law_sum : Stmt := topS 52
abbrev st__law_is_fraction : Stmt := topS 53
abbrev st__law_is_point : Stmt := topS 54
abbrev st__law_cross : Stmt := topS 55
abbrev st__law_size : Stmt := topS 56
abbrev st__law_is_triangle : Stmt := topS 57
abbrev st__law_times : Stmt := topS 58
abbrev st__law_hue : Stmt := topS 59
abbrev st__law_spoilt : Stmt := topS 60
abbrev st__law_names : Stmt := topS 61
abbrev st__law_error : Stmt := topS 62
abbrev st__law_all_refused : Stmt := topS 63
abbrev st__law_known : Stmt := topS 64
abbrev st__law_bad_primes : Stmt := topS 65
abbrev st__law_fraction : Stmt := topS 66
abbrev st__law_refused : Stmt := topS 67
abbrev st_law : Stmt := topS 68
theorem sc_common_of : FnScope ["one", "other"] ["one", "other"] (defScope st_common_of) := ⟨rfl, rfl, rfl, by decide +kernel, rfl, by decide +kernel, by decide +kernel⟩
theorem sc_is_whole : FnScope ["value", "low", "high"] ["value", "low", "high"] (defScope st_is_whole) := ⟨rfl, rfl, rfl, by decide +kernel, rfl, by decide +kernel, by decide +kernel⟩
theorem sc_is_fraction : FnScope ["value"] ["value"] (defScope st_is_fraction) := ⟨rfl, rfl, rfl, by decide +kernel, rfl, by decide +kernel, by decide +kernel⟩
theorem sc_is_point : FnScope ["value", "part"] ["value"] (defScope st_is_point) := ⟨rfl, rfl, rfl, by decide +kernel, rfl, by decide +kernel, by decide +kernel⟩
theorem sc_low : FnScope ["top", "below", "common"] ["top", "below"] (defScope st_low) := ⟨rfl, rfl, rfl, by decide +kernel, rfl, by decide +kernel, by decide +kernel⟩
theorem sc_minus : FnScope ["one", "other"] ["one", "other"] (defScope st_minus) := ⟨rfl, rfl, rfl, by decide +kernel, rfl, by decide +kernel, by decide +kernel⟩
theorem sc_times : FnScope ["one", "other"] ["one", "other"] (defScope st_times) := ⟨rfl, rfl, rfl, by decide +kernel, rfl, by decide +kernel, by decide +kernel⟩
theorem sc_turn_of : FnScope ["one", "other", "third", "first"] ["one", "other", "third"] (defScope st_turn_of) := ⟨rfl, rfl, rfl, by decide +kernel, rfl, by decide +kernel, by decide +kernel⟩
theorem sc_size_of : FnScope ["triangle", "top", "below"] ["triangle"] (defScope st_size_of) := ⟨rfl, rfl, rfl, by decide +kernel, rfl, by decide +kernel, by decide +kernel⟩
theorem sc_is_good_triangle : FnScope ["value", "point"] ["value"] (defScope st_is_good_triangle) := ⟨rfl, rfl, rfl, by decide +kernel, rfl, by decide +kernel, by decide +kernel⟩
theorem sc_divides : FnScope ["prime", "number", "many"] ["prime", "number"] (defScope st_divides) := ⟨rfl, rfl, rfl, by decide +kernel, rfl, by decide +kernel, by decide +kernel⟩
theorem sc_times_in : FnScope ["prime", "fraction"] ["prime", "fraction"] (defScope st_times_in) := ⟨rfl, rfl, rfl, by decide +kernel, rfl, by decide +kernel, by decide +kernel⟩
theorem sc_hue_of : FnScope ["prime", "point", "across", "up"] ["prime", "point"] (defScope st_hue_of) := ⟨rfl, rfl, rfl, by decide +kernel, rfl, by decide +kernel, by decide +kernel⟩
theorem sc_is_prime : FnScope ["value", "part"] ["value"] (defScope st_is_prime) := ⟨rfl, rfl, rfl, by decide +kernel, rfl, by decide +kernel, by decide +kernel⟩
theorem sc_need_prime : FnScope ["prime"] ["prime"] (defScope st_need_prime) := ⟨rfl, rfl, rfl, by decide +kernel, rfl, by decide +kernel, by decide +kernel⟩
theorem sc_stands : FnScope ["prime", "fraction"] ["prime", "fraction"] (defScope st_stands) := ⟨rfl, rfl, rfl, by decide +kernel, rfl, by decide +kernel, by decide +kernel⟩
theorem sc_hue : FnScope ["prime", "point"] ["prime", "point"] (defScope st_hue) := ⟨rfl, rfl, rfl, by decide +kernel, rfl, by decide +kernel, by decide +kernel⟩
theorem sc_is_triangle : FnScope ["value"] ["value"] (defScope st_is_triangle) := ⟨rfl, rfl, rfl, by decide +kernel, rfl, by decide +kernel, by decide +kernel⟩
theorem sc_size : FnScope ["triangle"] ["triangle"] (defScope st_size) := ⟨rfl, rfl, rfl, by decide +kernel, rfl, by decide +kernel, by decide +kernel⟩
theorem sc__law_vat : FnScope ["script", "k", "cell"] ["script", "k"] (defScope st__law_vat) := ⟨rfl, rfl, rfl, by decide +kernel, rfl, by decide +kernel, by decide +kernel⟩
theorem sc__law_under : FnScope ["vat", "many", "found", "wide"] ["vat", "many"] (defScope st__law_under) := ⟨rfl, rfl, rfl, by decide +kernel, rfl, by decide +kernel, by decide +kernel⟩
theorem sc__law_some : FnScope ["vat", "things"] ["vat", "things"] (defScope st__law_some) := ⟨rfl, rfl, rfl, by decide +kernel, rfl, by decide +kernel, by decide +kernel⟩
theorem sc__law_is_whole : FnScope ["value", "floor_so", "top_so"] ["value", "floor_so", "top_so"] (defScope st__law_is_whole) := ⟨rfl, rfl, rfl, by decide +kernel, rfl, by decide +kernel, by decide +kernel⟩
theorem sc__law_truly : FnScope ["found", "due"] ["found", "due"] (defScope st__law_truly) := ⟨rfl, rfl, rfl, by decide +kernel, rfl, by decide +kernel, by decide +kernel⟩
theorem sc__law_gcd : FnScope ["one", "other"] ["one", "other"] (defScope st__law_gcd) := ⟨rfl, rfl, rfl, by decide +kernel, rfl, by decide +kernel, by decide +kernel⟩
theorem sc__law_low : FnScope ["top", "below", "common"] ["top", "below"] (defScope st__law_low) := ⟨rfl, rfl, rfl, by decide +kernel, rfl, by decide +kernel, by decide +kernel⟩
theorem sc__law_sum : FnScope ["parts_so", "top", "below", "one", "other"] ["parts_so"] (defScope st__law_sum) := ⟨rfl, rfl, rfl, by decide +kernel, rfl, by decide +kernel, by decide +kernel⟩
theorem sc__law_is_fraction : FnScope ["value"] ["value"] (defScope st__law_is_fraction) := ⟨rfl, rfl, rfl, by decide +kernel, rfl, by decide +kernel, by decide +kernel⟩
theorem sc__law_is_point : FnScope ["value", "one"] ["value"] (defScope st__law_is_point) := ⟨rfl, rfl, rfl, by decide +kernel, rfl, by decide +kernel, by decide +kernel⟩
theorem sc__law_cross : FnScope ["one", "other", "third", "ax", "ay", "bx", "by"] ["one", "other", "third"] (defScope st__law_cross) := ⟨rfl, rfl, rfl, by decide +kernel, rfl, by decide +kernel, by decide +kernel⟩
theorem sc__law_size : FnScope ["triangle_so", "top", "below"] ["triangle_so"] (defScope st__law_size) := ⟨rfl, rfl, rfl, by decide +kernel, rfl, by decide +kernel, by decide +kernel⟩
theorem sc__law_is_triangle : FnScope ["value", "one"] ["value"] (defScope st__law_is_triangle) := ⟨rfl, rfl, rfl, by decide +kernel, rfl, by decide +kernel, by decide +kernel⟩
theorem sc__law_times : FnScope ["prime", "fraction_so", "many", "top", "below"] ["prime", "fraction_so"] (defScope st__law_times) := ⟨rfl, rfl, rfl, by decide +kernel, rfl, by decide +kernel, by decide +kernel⟩
theorem sc__law_hue : FnScope ["prime", "point_so", "row", "part"] ["prime", "point_so"] (defScope st__law_hue) := ⟨rfl, rfl, rfl, by decide +kernel, rfl, by decide +kernel, by decide +kernel⟩
theorem sc__law_spoilt : FnScope ["vat", "value", "at", "way"] ["vat", "value"] (defScope st__law_spoilt) := ⟨rfl, rfl, rfl, by decide +kernel, rfl, by decide +kernel, by decide +kernel⟩
theorem sc__law_error : FnScope ["call", "e"] ["call"] (defScope st__law_error) := ⟨rfl, rfl, rfl, by decide +kernel, rfl, by decide +kernel, by decide +kernel⟩
theorem sc__law_all_refused : FnScope ["call", "odds", "name", "odd"] ["call", "odds", "name"] (defScope st__law_all_refused) := ⟨rfl, rfl, rfl, by decide +kernel, rfl, by decide +kernel, by decide +kernel⟩
theorem sc__law_known : FnScope ["o", "p", "q", "r", "s", "u"] [] (defScope st__law_known) := ⟨rfl, rfl, rfl, by decide +kernel, rfl, by decide +kernel, by decide +kernel⟩
theorem sc__law_bad_primes : FnScope [] [] (defScope st__law_bad_primes) := ⟨rfl, rfl, rfl, by decide +kernel, rfl, by decide +kernel, by decide +kernel⟩
theorem sc__law_fraction : FnScope ["vat", "wide"] ["vat"] (defScope st__law_fraction) := ⟨rfl, rfl, rfl, by decide +kernel, rfl, by decide +kernel, by decide +kernel⟩
theorem sc__law_refused : FnScope ["call", "odds", "some", "two", "three", "bad"] [] (defScope st__law_refused) := ⟨rfl, rfl, rfl, by decide +kernel, rfl, by decide +kernel, by decide +kernel⟩
theorem sc_law : FnScope ["script", "k", "vat", "turn", "prime", "part", "spot", "value", "again", "two", "three", "half", "none", "one", "spots", "corner"] ["script"] (defScope st_law) := ⟨rfl, rfl, rfl, by decide +kernel, rfl, by decide +kernel, by decide +kernel⟩
def lt_0 : LamT := lamTo "_law_all_refused" ["call", "odd"] (((exK ((exK ((exK ((exK ((stE ((defBody st__law_all_refused).getD 0 (.Pass ⟨0, 0, 0, 0⟩))).getD 0 noE)).getD 0 noE)).getD 2 noE)).getD 0 noE)).getD 1 noE))
theorem ls_0 : LamSc ["call", "odd"] [] lt_0 := ⟨rfl, rfl, rfl, by decide +kernel, by decide +kernel, by decide, by decide +kernel, by decide +kernel, by decide +kernel, by decide +kernel⟩
def lt_1 : LamT := lamTo "_law_refused" ["call"] (((exK ((exK ((stE ((stS ((defBody st__law_refused).getD 0 (.Pass ⟨0, 0, 0, 0⟩))).getD 0 (.Pass ⟨0, 0, 0, 0⟩))).getD 0 noE)).getD 0 noE)).getD 1 noE))
theorem ls_1 : LamSc ["odd", "call"] ["odd"] lt_1 := ⟨rfl, rfl, rfl, by decide +kernel, by decide +kernel, by decide, by decide +kernel, by decide +kernel, by decide +kernel, by decide +kernel⟩
def lt_2 : LamT := lamTo "_law_refused" [] (((exK ((exK ((stE ((defBody st__law_refused).getD 2 (.Pass ⟨0, 0, 0, 0⟩))).getD 0 noE)).getD 0 noE)).getD 1 noE))
theorem ls_2 : LamSc ["odd"] ["odd"] lt_2 := ⟨rfl, rfl, rfl, by decide +kernel, by decide +kernel, by decide, by decide +kernel, by decide +kernel, by decide +kernel, by decide +kernel⟩
def lt_3 : LamT := lamTo "_law_refused" [] (((exK ((exK ((stE ((defBody st__law_refused).getD 4 (.Pass ⟨0, 0, 0, 0⟩))).getD 0 noE)).getD 0 noE)).getD 1 noE))
theorem ls_3 : LamSc ["odd"] ["odd"] lt_3 := ⟨rfl, rfl, rfl, by decide +kernel, by decide +kernel, by decide, by decide +kernel, by decide +kernel, by decide +kernel, by decide +kernel⟩
def fn : List He.DefD := [dd "common_of" "common_of" st_common_of, dd "is_whole" "is_whole" st_is_whole, dd "is_fraction" "is_fraction" st_is_fraction, dd "is_point" "is_point" st_is_point, dd "low" "low" st_low, dd "minus" "minus" st_minus, dd "times" "times" st_times, dd "turn_of" "turn_of" st_turn_of, dd "size_of" "size_of" st_size_of, dd "is_good_triangle" "is_good_triangle" st_is_good_triangle, dd "divides" "divides" st_divides, dd "times_in" "times_in" st_times_in, dd "hue_of" "hue_of" st_hue_of, dd "is_prime" "is_prime" st_is_prime, dd "need_prime" "need_prime" st_need_prime, dd "stands" "stands" st_stands, dd "hue" "hue" st_hue, dd "is_triangle" "is_triangle" st_is_triangle, dd "size" "size" st_size, dd "_law_vat" "_law_vat" st__law_vat, dd "_law_under" "_law_under" st__law_under, dd "_law_some" "_law_some" st__law_some, dd "_law_is_whole" "_law_is_whole" st__law_is_whole, dd "_law_truly" "_law_truly" st__law_truly, dd "_law_gcd" "_law_gcd" st__law_gcd, dd "_law_low" "_law_low" st__law_low, dd "_law_sum" "_law_sum" st__law_sum, dd "_law_is_fraction" "_law_is_fraction" st__law_is_fraction, dd "_law_is_point" "_law_is_point" st__law_is_point, dd "_law_cross" "_law_cross" st__law_cross, dd "_law_size" "_law_size" st__law_size, dd "_law_is_triangle" "_law_is_triangle" st__law_is_triangle, dd "_law_times" "_law_times" st__law_times, dd "_law_hue" "_law_hue" st__law_hue, dd "_law_spoilt" "_law_spoilt" st__law_spoilt, dd "_law_names" "_law_names" st__law_names, dd "_law_error" "_law_error" st__law_error, dd "_law_all_refused" "_law_all_refused" st__law_all_refused, dd "_law_known" "_law_known" st__law_known, dd "_law_bad_primes" "_law_bad_primes" st__law_bad_primes, dd "_law_fraction" "_law_fraction" st__law_fraction, dd "_law_refused" "_law_refused" st__law_refused, dd "law" "law" st_law]
def fa : List He.Fa := [.free "abs", .free "isinstance", .free "bool", .free "int", .free "len", .free "tuple", .free "all", .free "range", .free "list", .free "sorted", .free "set", .free "min", .free "str", .free "max", .free "zip", .free "ValueError", .glo "is_whole", .int "FAR" 1000000, .glo "common_of", .glo "is_fraction", .glo "low", .glo "times", .glo "minus", .glo "turn_of", .glo "is_point", .glo "size_of", .glo "divides", .glo "times_in", .int "LAST_PRIME" 97, .glo "is_prime", .glo "InvalidPrime", .glo "need_prime", .glo "InvalidFraction", .glo "InvalidPoint", .glo "hue_of", .glo "is_good_triangle", .glo "InvalidTriangle", .glo "_law_under", .glo "_law_gcd", .glo "_law_low", .glo "_law_is_whole", .glo "_law_is_fraction", .glo "_law_sum", .glo "_law_cross", .glo "_law_is_point", .glo "_law_size", .glo "_law_times", .glo "_law_spoilt", .glo "OddError", .glo "_law_names", .glo "_law_error", .glo "_law_some", .glo "hue", .glo "stands", .glo "_law_all_refused", .glo "_law_bad_primes", .glo "_law_known", .glo "size", .glo "_law_vat", .glo "_law_fraction", .glo "_law_hue", .glo "_law_is_triangle", .glo "_law_truly", .glo "is_triangle", .glo "_law_refused", .glo "InvalidShare", .glo "InvalidCutting", .glo "InvalidNumber", .glo "InvalidSide", .glo "InvalidSizes", .glo "InvalidIndex", .glo "InvalidCorner", .glo "InvalidPart", .glo "InvalidHow", .glo "InvalidFacts", .glo "InvalidText", .glo "Apart", .glo "OutOfReach", .glo "Unlike", .glo "NothingToUndo", .glo "TooMany", .glo "law", .exc "InvalidPrime", .exm "InvalidPrime" "OddError" true, .exc "InvalidFraction", .exm "InvalidFraction" "OddError" true, .exc "InvalidPoint", .exm "InvalidPoint" "OddError" true, .exc "InvalidTriangle", .exm "InvalidTriangle" "OddError" true]
def tf : List He.Defn := [("_law_all_refused", none), ("_law_refused", none)]
def nmC (cl : Str → Addr) : List Value := [.ref (cl "InvalidShare"), .ref (cl "InvalidCutting"), .ref (cl "InvalidNumber"), .ref (cl "InvalidPrime"), .ref (cl "InvalidFraction"), .ref (cl "InvalidPoint"), .ref (cl "InvalidTriangle"), .ref (cl "InvalidSide"), .ref (cl "InvalidSizes"), .ref (cl "InvalidIndex"), .ref (cl "InvalidCorner"), .ref (cl "InvalidPart"), .ref (cl "InvalidHow"), .ref (cl "InvalidFacts"), .ref (cl "InvalidText"), .ref (cl "Apart"), .ref (cl "OutOfReach"), .ref (cl "Unlike"), .ref (cl "NothingToUndo"), .ref (cl "TooMany"), .type "ValueError"]
def nm1 : Str := Str.ofString "share cutting number prime fraction point triangle side sizes index corner part how facts text"
def nm2 : Str := Str.ofString " apart reach unlike undo many value"
def nmS : Str := Str.ofString " "
theorem sc__law_names : FnScope ["e", "some", "labels", "label", "good"] ["e"] (defScope st__law_names) := ⟨rfl, rfl, rfl, by decide +kernel, rfl, by decide +kernel, by decide +kernel⟩
def clOk (K : PySem.W.Frag) (t : Str × List Bool × Str) : Bool := excB K (He.ga K t.1) && decide (kits K (He.ga K t.1) (nmC (He.ga K)) = some t.2.1)
def ex (K : PySem.W.Frag) : Bool := decide ((tf.map fun p => (He.cT K p).2).Nodup) && (noLst K && (clT.all (clOk K)))
def tabN : List (Nat × Str) := [(16, "hue"), (15, "stands"), (18, "size")]
def lamN : List (Nat × LamT) := [(0, lt_0), (1, lt_1), (2, lt_2), (3, lt_3)]
/-- what is fixed through the law -/
def gs (K : PySem.W.Frag) : Gs where
  tab := fun i => (tabN.lookup i).map fun x => V.ref (A K x)
  T := tabL K tf
  cls := fun c => He.ga K (clI c).1
  many := none
  Φ := PHI
  Λ := LAM
  lamT := fun i => (lamN.lookup i).getD (lamTo "" [] noE)
  nm := NM
  F := FF
abbrev HY := Hy fa fn tf ex
section
variable {P : Program} {w : World} {K : PySem.W.Frag} {mg : Str → Option Value} {base : Heap}
theorem z_abs (h : HY K mg base) : mg "abs" = none := He.free_ok h.X h.G (h.c.fact 0 rfl)
theorem z_isinstance (h : HY K mg base) : mg "isinstance" = none := He.free_ok h.X h.G (h.c.fact 1 rfl)
theorem z_bool (h : HY K mg base) : mg "bool" = none := He.free_ok h.X h.G (h.c.fact 2 rfl)
theorem z_int (h : HY K mg base) : mg "int" = none := He.free_ok h.X h.G (h.c.fact 3 rfl)
theorem z_len (h : HY K mg base) : mg "len" = none := He.free_ok h.X h.G (h.c.fact 4 rfl)
theorem z_tuple (h : HY K mg base) : mg "tuple" = none := He.free_ok h.X h.G (h.c.fact 5 rfl)
theorem z_all (h : HY K mg base) : mg "all" = none := He.free_ok h.X h.G (h.c.fact 6 rfl)
theorem z_range (h : HY K mg base) : mg "range" = none := He.free_ok h.X h.G (h.c.fact 7 rfl)
theorem z_list (h : HY K mg base) : mg "list" = none := He.free_ok h.X h.G (h.c.fact 8 rfl)
theorem z_sorted (h : HY K mg base) : mg "sorted" = none := He.free_ok h.X h.G (h.c.fact 9 rfl)
theorem z_set (h : HY K mg base) : mg "set" = none := He.free_ok h.X h.G (h.c.fact 10 rfl)
theorem z_min (h : HY K mg base) : mg "min" = none := He.free_ok h.X h.G (h.c.fact 11 rfl)
theorem z_str (h : HY K mg base) : mg "str" = none := He.free_ok h.X h.G (h.c.fact 12 rfl)
theorem z_max (h : HY K mg base) : mg "max" = none := He.free_ok h.X h.G (h.c.fact 13 rfl)
theorem z_zip (h : HY K mg base) : mg "zip" = none := He.free_ok h.X h.G (h.c.fact 14 rfl)
theorem z_ValueError (h : HY K mg base) : mg "ValueError" = none := He.free_ok h.X h.G (h.c.fact 15 rfl)
theorem g_is_whole (h : HY K mg base) : mg "is_whole" = some (.ref (Iv.A K "is_whole")) := He.glo_ok h.X h.G (h.c.fact 16 rfl)
theorem i_FAR (h : HY K mg base) : ∃ t, mg "FAR" = some (.int 1000000 t) := He.int_ok h.X h.G (h.c.fact 17 rfl)
theorem g_common_of (h : HY K mg base) : mg "common_of" = some (.ref (Iv.A K "common_of")) := He.glo_ok h.X h.G (h.c.fact 18 rfl)
theorem g_is_fraction (h : HY K mg base) : mg "is_fraction" = some (.ref (Iv.A K "is_fraction")) := He.glo_ok h.X h.G (h.c.fact 19 rfl)
theorem g_low (h : HY K mg base) : mg "low" = some (.ref (Iv.A K "low")) := He.glo_ok h.X h.G (h.c.fact 20 rfl)
theorem g_times (h : HY K mg base) : mg "times" = some (.ref (Iv.A K "times")) := He.glo_ok h.X h.G (h.c.fact 21 rfl)
theorem g_minus (h : HY K mg base) : mg "minus" = some (.ref (Iv.A K "minus")) := He.glo_ok h.X h.G (h.c.fact 22 rfl)
theorem g_turn_of (h : HY K mg base) : mg "turn_of" = some (.ref (Iv.A K "turn_of")) := He.glo_ok h.X h.G (h.c.fact 23 rfl)
theorem g_is_point (h : HY K mg base) : mg "is_point" = some (.ref (Iv.A K "is_point")) := He.glo_ok h.X h.G (h.c.fact 24 rfl)
theorem g_size_of (h : HY K mg base) : mg "size_of" = some (.ref (Iv.A K "size_of")) := He.glo_ok h.X h.G (h.c.fact 25 rfl)
theorem g_divides (h : HY K mg base) : mg "divides" = some (.ref (Iv.A K "divides")) := He.glo_ok h.X h.G (h.c.fact 26 rfl)
theorem g_times_in (h : HY K mg base) : mg "times_in" = some (.ref (Iv.A K "times_in")) := He.glo_ok h.X h.G (h.c.fact 27 rfl)
theorem i_LAST_PRIME (h : HY K mg base) : ∃ t, mg "LAST_PRIME" = some (.int 97 t) := He.int_ok h.X h.G (h.c.fact 28 rfl)
theorem g_is_prime (h : HY K mg base) : mg "is_prime" = some (.ref (Iv.A K "is_prime")) := He.glo_ok h.X h.G (h.c.fact 29 rfl)
theorem g_InvalidPrime (h : HY K mg base) : mg "InvalidPrime" = some (.ref (Iv.A K "InvalidPrime")) := He.glo_ok h.X h.G (h.c.fact 30 rfl)
theorem g_need_prime (h : HY K mg base) : mg "need_prime" = some (.ref (Iv.A K "need_prime")) := He.glo_ok h.X h.G (h.c.fact 31 rfl)
theorem g_InvalidFraction (h : HY K mg base) : mg "InvalidFraction" = some (.ref (Iv.A K "InvalidFraction")) := He.glo_ok h.X h.G (h.c.fact 32 rfl)
theorem g_InvalidPoint (h : HY K mg base) : mg "InvalidPoint" = some (.ref (Iv.A K "InvalidPoint")) := He.glo_ok h.X h.G (h.c.fact 33 rfl)
theorem g_hue_of (h : HY K mg base) : mg "hue_of" = some (.ref (Iv.A K "hue_of")) := He.glo_ok h.X h.G (h.c.fact 34 rfl)
theorem g_is_good_triangle (h : HY K mg base) : mg "is_good_triangle" = some (.ref (Iv.A K "is_good_triangle")) := He.glo_ok h.X h.G (h.c.fact 35 rfl)
theorem g_InvalidTriangle (h : HY K mg base) : mg "InvalidTriangle" = some (.ref (Iv.A K "InvalidTriangle")) := He.glo_ok h.X h.G (h.c.fact 36 rfl)
theorem g__law_under (h : HY K mg base) : mg "_law_under" = some (.ref (Iv.A K "_law_under")) := He.glo_ok h.X h.G (h.c.fact 37 rfl)
theorem g__law_gcd (h : HY K mg base) : mg "_law_gcd" = some (.ref (Iv.A K "_law_gcd")) := He.glo_ok h.X h.G (h.c.fact 38 rfl)
theorem g__law_low (h : HY K mg base) : mg "_law_low" = some (.ref (Iv.A K "_law_low")) := He.glo_ok h.X h.G (h.c.fact 39 rfl)
theorem g__law_is_whole (h : HY K mg base) : mg "_law_is_whole" = some (.ref (Iv.A K "_law_is_whole")) := He.glo_ok h.X h.G (h.c.fact 40 rfl)
theorem g__law_is_fraction (h : HY K mg base) : mg "_law_is_fraction" = some (.ref (Iv.A K "_law_is_fraction")) := He.glo_ok h.X h.G (h.c.fact 41 rfl)
theorem g__law_sum (h : HY K mg base) : mg "_law_sum" = some (.ref (Iv.A K "_law_sum")) := He.glo_ok h.X h.G (h.c.fact 42 rfl)
theorem g__law_cross (h : HY K mg base) : mg "_law_cross" = some (.ref (Iv.A K "_law_cross")) := He.glo_ok h.X h.G (h.c.fact 43 rfl)
theorem g__law_is_point (h : HY K mg base) : mg "_law_is_point" = some (.ref (Iv.A K "_law_is_point")) := He.glo_ok h.X h.G (h.c.fact 44 rfl)
theorem g__law_size (h : HY K mg base) : mg "_law_size" = some (.ref (Iv.A K "_law_size")) := He.glo_ok h.X h.G (h.c.fact 45 rfl)
theorem g__law_times (h : HY K mg base) : mg "_law_times" = some (.ref (Iv.A K "_law_times")) := He.glo_ok h.X h.G (h.c.fact 46 rfl)
theorem g__law_spoilt (h : HY K mg base) : mg "_law_spoilt" = some (.ref (Iv.A K "_law_spoilt")) := He.glo_ok h.X h.G (h.c.fact 47 rfl)
theorem g_OddError (h : HY K mg base) : mg "OddError" = some (.ref (Iv.A K "OddError")) := He.glo_ok h.X h.G (h.c.fact 48 rfl)
theorem g__law_names (h : HY K mg base) : mg "_law_names" = some (.ref (Iv.A K "_law_names")) := He.glo_ok h.X h.G (h.c.fact 49 rfl)
theorem g__law_error (h : HY K mg base) : mg "_law_error" = some (.ref (Iv.A K "_law_error")) := He.glo_ok h.X h.G (h.c.fact 50 rfl)
theorem g__law_some (h : HY K mg base) : mg "_law_some" = some (.ref (Iv.A K "_law_some")) := He.glo_ok h.X h.G (h.c.fact 51 rfl)
theorem g_hue (h : HY K mg base) : mg "hue" = some (.ref (Iv.A K "hue")) := He.glo_ok h.X h.G (h.c.fact 52 rfl)
theorem g_stands (h : HY K mg base) : mg "stands" = some (.ref (Iv.A K "stands")) := He.glo_ok h.X h.G (h.c.fact 53 rfl)
theorem g__law_all_refused (h : HY K mg base) : mg "_law_all_refused" = some (.ref (Iv.A K "_law_all_refused")) := He.glo_ok h.X h.G (h.c.fact 54 rfl)
theorem g__law_bad_primes (h : HY K mg base) : mg "_law_bad_primes" = some (.ref (Iv.A K "_law_bad_primes")) := He.glo_ok h.X h.G (h.c.fact 55 rfl)
theorem g__law_known (h : HY K mg base) : mg "_law_known" = some (.ref (Iv.A K "_law_known")) := He.glo_ok h.X h.G (h.c.fact 56 rfl)
theorem g_size (h : HY K mg base) : mg "size" = some (.ref (Iv.A K "size")) := He.glo_ok h.X h.G (h.c.fact 57 rfl)
theorem g__law_vat (h : HY K mg base) : mg "_law_vat" = some (.ref (Iv.A K "_law_vat")) := He.glo_ok h.X h.G (h.c.fact 58 rfl)
theorem g__law_fraction (h : HY K mg base) : mg "_law_fraction" = some (.ref (Iv.A K "_law_fraction")) := He.glo_ok h.X h.G (h.c.fact 59 rfl)
theorem g__law_hue (h : HY K mg base) : mg "_law_hue" = some (.ref (Iv.A K "_law_hue")) := He.glo_ok h.X h.G (h.c.fact 60 rfl)
theorem g__law_is_triangle (h : HY K mg base) : mg "_law_is_triangle" = some (.ref (Iv.A K "_law_is_triangle")) := He.glo_ok h.X h.G (h.c.fact 61 rfl)
theorem g__law_truly (h : HY K mg base) : mg "_law_truly" = some (.ref (Iv.A K "_law_truly")) := He.glo_ok h.X h.G (h.c.fact 62 rfl)
theorem g_is_triangle (h : HY K mg base) : mg "is_triangle" = some (.ref (Iv.A K "is_triangle")) := He.glo_ok h.X h.G (h.c.fact 63 rfl)
theorem g__law_refused (h : HY K mg base) : mg "_law_refused" = some (.ref (Iv.A K "_law_refused")) := He.glo_ok h.X h.G (h.c.fact 64 rfl)
theorem g_InvalidShare (h : HY K mg base) : mg "InvalidShare" = some (.ref (Iv.A K "InvalidShare")) := He.glo_ok h.X h.G (h.c.fact 65 rfl)
theorem g_InvalidCutting (h : HY K mg base) : mg "InvalidCutting" = some (.ref (Iv.A K "InvalidCutting")) := He.glo_ok h.X h.G (h.c.fact 66 rfl)
theorem g_InvalidNumber (h : HY K mg base) : mg "InvalidNumber" = some (.ref (Iv.A K "InvalidNumber")) := He.glo_ok h.X h.G (h.c.fact 67 rfl)
theorem g_InvalidSide (h : HY K mg base) : mg "InvalidSide" = some (.ref (Iv.A K "InvalidSide")) := He.glo_ok h.X h.G (h.c.fact 68 rfl)
theorem g_InvalidSizes (h : HY K mg base) : mg "InvalidSizes" = some (.ref (Iv.A K "InvalidSizes")) := He.glo_ok h.X h.G (h.c.fact 69 rfl)
theorem g_InvalidIndex (h : HY K mg base) : mg "InvalidIndex" = some (.ref (Iv.A K "InvalidIndex")) := He.glo_ok h.X h.G (h.c.fact 70 rfl)
theorem g_InvalidCorner (h : HY K mg base) : mg "InvalidCorner" = some (.ref (Iv.A K "InvalidCorner")) := He.glo_ok h.X h.G (h.c.fact 71 rfl)
theorem g_InvalidPart (h : HY K mg base) : mg "InvalidPart" = some (.ref (Iv.A K "InvalidPart")) := He.glo_ok h.X h.G (h.c.fact 72 rfl)
theorem g_InvalidHow (h : HY K mg base) : mg "InvalidHow" = some (.ref (Iv.A K "InvalidHow")) := He.glo_ok h.X h.G (h.c.fact 73 rfl)
theorem g_InvalidFacts (h : HY K mg base) : mg "InvalidFacts" = some (.ref (Iv.A K "InvalidFacts")) := He.glo_ok h.X h.G (h.c.fact 74 rfl)
theorem g_InvalidText (h : HY K mg base) : mg "InvalidText" = some (.ref (Iv.A K "InvalidText")) := He.glo_ok h.X h.G (h.c.fact 75 rfl)
theorem g_Apart (h : HY K mg base) : mg "Apart" = some (.ref (Iv.A K "Apart")) := He.glo_ok h.X h.G (h.c.fact 76 rfl)
theorem g_OutOfReach (h : HY K mg base) : mg "OutOfReach" = some (.ref (Iv.A K "OutOfReach")) := He.glo_ok h.X h.G (h.c.fact 77 rfl)
theorem g_Unlike (h : HY K mg base) : mg "Unlike" = some (.ref (Iv.A K "Unlike")) := He.glo_ok h.X h.G (h.c.fact 78 rfl)
theorem g_NothingToUndo (h : HY K mg base) : mg "NothingToUndo" = some (.ref (Iv.A K "NothingToUndo")) := He.glo_ok h.X h.G (h.c.fact 79 rfl)
theorem g_TooMany (h : HY K mg base) : mg "TooMany" = some (.ref (Iv.A K "TooMany")) := He.glo_ok h.X h.G (h.c.fact 80 rfl)
theorem g_law (h : HY K mg base) : mg "law" = some (.ref (Iv.A K "law")) := He.glo_ok h.X h.G (h.c.fact 81 rfl)
theorem F_common_of (h : HY K mg base) : Fun K "common_of" "common_of" st_common_of (Iv.A K "common_of") (fdA K "common_of" st_common_of) := h.fun_ 0 rfl
theorem bi_common_of (h : HY K mg base) : Binds K (fdA K "common_of" st_common_of) ["one", "other"] [] := (F_common_of h).binds fun _ _ _ _ _ _ us hl => match us, hl with | [_, _], _ => rfl
theorem F_is_whole (h : HY K mg base) : Fun K "is_whole" "is_whole" st_is_whole (Iv.A K "is_whole") (fdA K "is_whole" st_is_whole) := h.fun_ 1 rfl
theorem bi_is_whole (h : HY K mg base) : Binds K (fdA K "is_whole" st_is_whole) ["value", "low", "high"] [] := (F_is_whole h).binds fun _ _ _ _ _ _ us hl => match us, hl with | [_, _, _], _ => rfl
theorem F_is_fraction (h : HY K mg base) : Fun K "is_fraction" "is_fraction" st_is_fraction (Iv.A K "is_fraction") (fdA K "is_fraction" st_is_fraction) := h.fun_ 2 rfl
theorem bi_is_fraction (h : HY K mg base) : Binds K (fdA K "is_fraction" st_is_fraction) ["value"] [] := (F_is_fraction h).binds fun _ _ _ _ _ _ us hl => match us, hl with | [_], _ => rfl
theorem F_is_point (h : HY K mg base) : Fun K "is_point" "is_point" st_is_point (Iv.A K "is_point") (fdA K "is_point" st_is_point) := h.fun_ 3 rfl
theorem bi_is_point (h : HY K mg base) : Binds K (fdA K "is_point" st_is_point) ["value"] [] := (F_is_point h).binds fun _ _ _ _ _ _ us hl => match us, hl with | [_], _ => rfl
theorem F_low (h : HY K mg base) : Fun K "low" "low" st_low (Iv.A K "low") (fdA K "low" st_low) := h.fun_ 4 rfl
theorem bi_low (h : HY K mg base) : Binds K (fdA K "low" st_low) ["top", "below"] [] := (F_low h).binds fun _ _ _ _ _ _ us hl => match us, hl with | [_, _], _ => rfl
theorem F_minus (h : HY K mg base) : Fun K "minus" "minus" st_minus (Iv.A K "minus") (fdA K "minus" st_minus) := h.fun_ 5 rfl
theorem bi_minus (h : HY K mg base) : Binds K (fdA K "minus" st_minus) ["one", "other"] [] := (F_minus h).binds fun _ _ _ _ _ _ us hl => match us, hl with | [_, _], _ => rfl
theorem F_times (h : HY K mg base) : Fun K "times" "times" st_times (Iv.A K "times") (fdA K "times" st_times) := h.fun_ 6 rfl
theorem bi_times (h : HY K mg base) : Binds K (fdA K "times" st_times) ["one", "other"] [] := (F_times h).binds fun _ _ _ _ _ _ us hl => match us, hl with | [_, _], _ => rfl
theorem F_turn_of (h : HY K mg base) : Fun K "turn_of" "turn_of" st_turn_of (Iv.A K "turn_of") (fdA K "turn_of" st_turn_of) := h.fun_ 7 rfl
theorem bi_turn_of (h : HY K mg base) : Binds K (fdA K "turn_of" st_turn_of) ["one", "other", "third"] [] := (F_turn_of h).binds fun _ _ _ _ _ _ us hl => match us, hl with | [_, _, _], _ => rfl
theorem F_size_of (h : HY K mg base) : Fun K "size_of" "size_of" st_size_of (Iv.A K "size_of") (fdA K "size_of" st_size_of) := h.fun_ 8 rfl
theorem bi_size_of (h : HY K mg base) : Binds K (fdA K "size_of" st_size_of) ["triangle"] [] := (F_size_of h).binds fun _ _ _ _ _ _ us hl => match us, hl with | [_], _ => rfl
theorem F_is_good_triangle (h : HY K mg base) : Fun K "is_good_triangle" "is_good_triangle" st_is_good_triangle (Iv.A K "is_good_triangle") (fdA K "is_good_triangle" st_is_good_triangle) := h.fun_ 9 rfl
theorem bi_is_good_triangle (h : HY K mg base) : Binds K (fdA K "is_good_triangle" st_is_good_triangle) ["value"] [] := (F_is_good_triangle h).binds fun _ _ _ _ _ _ us hl => match us, hl with | [_], _ => rfl
theorem F_divides (h : HY K mg base) : Fun K "divides" "divides" st_divides (Iv.A K "divides") (fdA K "divides" st_divides) := h.fun_ 10 rfl
theorem bi_divides (h : HY K mg base) : Binds K (fdA K "divides" st_divides) ["prime", "number"] [] := (F_divides h).binds fun _ _ _ _ _ _ us hl => match us, hl with | [_, _], _ => rfl
theorem F_times_in (h : HY K mg base) : Fun K "times_in" "times_in" st_times_in (Iv.A K "times_in") (fdA K "times_in" st_times_in) := h.fun_ 11 rfl
theorem bi_times_in (h : HY K mg base) : Binds K (fdA K "times_in" st_times_in) ["prime", "fraction"] [] := (F_times_in h).binds fun _ _ _ _ _ _ us hl => match us, hl with | [_, _], _ => rfl
theorem F_hue_of (h : HY K mg base) : Fun K "hue_of" "hue_of" st_hue_of (Iv.A K "hue_of") (fdA K "hue_of" st_hue_of) := h.fun_ 12 rfl
theorem bi_hue_of (h : HY K mg base) : Binds K (fdA K "hue_of" st_hue_of) ["prime", "point"] [] := (F_hue_of h).binds fun _ _ _ _ _ _ us hl => match us, hl with | [_, _], _ => rfl
theorem F_is_prime (h : HY K mg base) : Fun K "is_prime" "is_prime" st_is_prime (Iv.A K "is_prime") (fdA K "is_prime" st_is_prime) := h.fun_ 13 rfl
theorem bi_is_prime (h : HY K mg base) : Binds K (fdA K "is_prime" st_is_prime) ["value"] [] := (F_is_prime h).binds fun _ _ _ _ _ _ us hl => match us, hl with | [_], _ => rfl
theorem F_need_prime (h : HY K mg base) : Fun K "need_prime" "need_prime" st_need_prime (Iv.A K "need_prime") (fdA K "need_prime" st_need_prime) := h.fun_ 14 rfl
theorem bi_need_prime (h : HY K mg base) : Binds K (fdA K "need_prime" st_need_prime) ["prime"] [] := (F_need_prime h).binds fun _ _ _ _ _ _ us hl => match us, hl with | [_], _ => rfl
theorem F_stands (h : HY K mg base) : Fun K "stands" "stands" st_stands (Iv.A K "stands") (fdA K "stands" st_stands) := h.fun_ 15 rfl
theorem bi_stands (h : HY K mg base) : Binds K (fdA K "stands" st_stands) ["prime", "fraction"] [] := (F_stands h).binds fun _ _ _ _ _ _ us hl => match us, hl with | [_, _], _ => rfl
theorem F_hue (h : HY K mg base) : Fun K "hue" "hue" st_hue (Iv.A K "hue") (fdA K "hue" st_hue) := h.fun_ 16 rfl
theorem bi_hue (h : HY K mg base) : Binds K (fdA K "hue" st_hue) ["prime", "point"] [] := (F_hue h).binds fun _ _ _ _ _ _ us hl => match us, hl with | [_, _], _ => rfl
theorem F_is_triangle (h : HY K mg base) : Fun K "is_triangle" "is_triangle" st_is_triangle (Iv.A K "is_triangle") (fdA K "is_triangle" st_is_triangle) := h.fun_ 17 rfl
theorem bi_is_triangle (h : HY K mg base) : Binds K (fdA K "is_triangle" st_is_triangle) ["value"] [] := (F_is_triangle h).binds fun _ _ _ _ _ _ us hl => match us, hl with | [_], _ => rfl
theorem F_size (h : HY K mg base) : Fun K "size" "size" st_size (Iv.A K "size") (fdA K "size" st_size) := h.fun_ 18 rfl
theorem bi_size (h : HY K mg base) : Binds K (fdA K "size" st_size) ["triangle"] [] := (F_size h).binds fun _ _ _ _ _ _ us hl => match us, hl with | [_], _ => rfl
theorem F__law_vat (h : HY K mg base) : Fun K "_law_vat" "_law_vat" st__law_vat (Iv.A K "_law_vat") (fdA K "_law_vat" st__law_vat) := h.fun_ 19 rfl
theorem bi__law_vat (h : HY K mg base) : Binds K (fdA K "_law_vat" st__law_vat) ["script", "k"] [] := (F__law_vat h).binds fun _ _ _ _ _ _ us hl => match us, hl with | [_, _], _ => rfl
theorem F__law_under (h : HY K mg base) : Fun K "_law_under" "_law_under" st__law_under (Iv.A K "_law_under") (fdA K "_law_under" st__law_under) := h.fun_ 20 rfl
theorem bi__law_under (h : HY K mg base) : Binds K (fdA K "_law_under" st__law_under) ["vat", "many"] [] := (F__law_under h).binds fun _ _ _ _ _ _ us hl => match us, hl with | [_, _], _ => rfl
theorem F__law_some (h : HY K mg base) : Fun K "_law_some" "_law_some" st__law_some (Iv.A K "_law_some") (fdA K "_law_some" st__law_some) := h.fun_ 21 rfl
theorem bi__law_some (h : HY K mg base) : Binds K (fdA K "_law_some" st__law_some) ["vat", "things"] [] := (F__law_some h).binds fun _ _ _ _ _ _ us hl => match us, hl with | [_, _], _ => rfl
theorem F__law_is_whole (h : HY K mg base) : Fun K "_law_is_whole" "_law_is_whole" st__law_is_whole (Iv.A K "_law_is_whole") (fdA K "_law_is_whole" st__law_is_whole) := h.fun_ 22 rfl
theorem bi__law_is_whole (h : HY K mg base) : Binds K (fdA K "_law_is_whole" st__law_is_whole) ["value", "floor_so", "top_so"] [] := (F__law_is_whole h).binds fun _ _ _ _ _ _ us hl => match us, hl with | [_, _, _], _ => rfl
theorem F__law_truly (h : HY K mg base) : Fun K "_law_truly" "_law_truly" st__law_truly (Iv.A K "_law_truly") (fdA K "_law_truly" st__law_truly) := h.fun_ 23 rfl
theorem bi__law_truly (h : HY K mg base) : Binds K (fdA K "_law_truly" st__law_truly) ["found", "due"] [] := (F__law_truly h).binds fun _ _ _ _ _ _ us hl => match us, hl with | [_, _], _ => rfl
theorem F__law_gcd (h : HY K mg base) : Fun K "_law_gcd" "_law_gcd" st__law_gcd (Iv.A K "_law_gcd") (fdA K "_law_gcd" st__law_gcd) := h.fun_ 24 rfl
theorem bi__law_gcd (h : HY K mg base) : Binds K (fdA K "_law_gcd" st__law_gcd) ["one", "other"] [] := (F__law_gcd h).binds fun _ _ _ _ _ _ us hl => match us, hl with | [_, _], _ => rfl
theorem F__law_low (h : HY K mg base) : Fun K "_law_low" "_law_low" st__law_low (Iv.A K "_law_low") (fdA K "_law_low" st__law_low) := h.fun_ 25 rfl
theorem bi__law_low (h : HY K mg base) : Binds K (fdA K "_law_low" st__law_low) ["top", "below"] [] := (F__law_low h).binds fun _ _ _ _ _ _ us hl => match us, hl with | [_, _], _ => rfl
theorem F__law_sum (h : HY K mg base) : Fun K "_law_sum" "_law_sum" st__law_sum (Iv.A K "_law_sum") (fdA K "_law_sum" st__law_sum) := h.fun_ 26 rfl
theorem bi__law_sum (h : HY K mg base) : Binds K (fdA K "_law_sum" st__law_sum) ["parts_so"] [] := (F__law_sum h).binds fun _ _ _ _ _ _ us hl => match us, hl with | [_], _ => rfl
theorem F__law_is_fraction (h : HY K mg base) : Fun K "_law_is_fraction" "_law_is_fraction" st__law_is_fraction (Iv.A K "_law_is_fraction") (fdA K "_law_is_fraction" st__law_is_fraction) := h.fun_ 27 rfl
theorem bi__law_is_fraction (h : HY K mg base) : Binds K (fdA K "_law_is_fraction" st__law_is_fraction) ["value"] [] := (F__law_is_fraction h).binds fun _ _ _ _ _ _ us hl => match us, hl with | [_], _ => rfl
theorem F__law_is_point (h : HY K mg base) : Fun K "_law_is_point" "_law_is_point" st__law_is_point (Iv.A K "_law_is_point") (fdA K "_law_is_point" st__law_is_point) := h.fun_ 28 rfl
theorem bi__law_is_point (h : HY K mg base) : Binds K (fdA K "_law_is_point" st__law_is_point) ["value"] [] := (F__law_is_point h).binds fun _ _ _ _ _ _ us hl => match us, hl with | [_], _ => rfl
theorem F__law_cross (h : HY K mg base) : Fun K "_law_cross" "_law_cross" st__law_cross (Iv.A K "_law_cross") (fdA K "_law_cross" st__law_cross) := h.fun_ 29 rfl
theorem bi__law_cross (h : HY K mg base) : Binds K (fdA K "_law_cross" st__law_cross) ["one", "other", "third"] [] := (F__law_cross h).binds fun _ _ _ _ _ _ us hl => match us, hl with | [_, _, _], _ => rfl
theorem F__law_size (h : HY K mg base) : Fun K "_law_size" "_law_size" st__law_size (Iv.A K "_law_size") (fdA K "_law_size" st__law_size) := h.fun_ 30 rfl
theorem bi__law_size (h : HY K mg base) : Binds K (fdA K "_law_size" st__law_size) ["triangle_so"] [] := (F__law_size h).binds fun _ _ _ _ _ _ us hl => match us, hl with | [_], _ => rfl
theorem F__law_is_triangle (h : HY K mg base) : Fun K "_law_is_triangle" "_law_is_triangle" st__law_is_triangle (Iv.A K "_law_is_triangle") (fdA K "_law_is_triangle" st__law_is_triangle) := h.fun_ 31 rfl
theorem bi__law_is_triangle (h : HY K mg base) : Binds K (fdA K "_law_is_triangle" st__law_is_triangle) ["value"] [] := (F__law_is_triangle h).binds fun _ _ _ _ _ _ us hl => match us, hl with | [_], _ => rfl
theorem F__law_times (h : HY K mg base) : Fun K "_law_times" "_law_times" st__law_times (Iv.A K "_law_times") (fdA K "_law_times" st__law_times) := h.fun_ 32 rfl
theorem bi__law_times (h : HY K mg base) : Binds K (fdA K "_law_times" st__law_times) ["prime", "fraction_so"] [] := (F__law_times h).binds fun _ _ _ _ _ _ us hl => match us, hl with | [_, _], _ => rfl
theorem F__law_hue (h : HY K mg base) : Fun K "_law_hue" "_law_hue" st__law_hue (Iv.A K "_law_hue") (fdA K "_law_hue" st__law_hue) := h.fun_ 33 rfl
theorem bi__law_hue (h : HY K mg base) : Binds K (fdA K "_law_hue" st__law_hue) ["prime", "point_so"] [] := (F__law_hue h).binds fun _ _ _ _ _ _ us hl => match us, hl with | [_, _], _ => rfl
theorem F__law_spoilt (h : HY K mg base) : Fun K "_law_spoilt" "_law_spoilt" st__law_spoilt (Iv.A K "_law_spoilt") (fdA K "_law_spoilt" st__law_spoilt) := h.fun_ 34 rfl
theorem bi__law_spoilt (h : HY K mg base) : Binds K (fdA K "_law_spoilt" st__law_spoilt) ["vat", "value"] [] := (F__law_spoilt h).binds fun _ _ _ _ _ _ us hl => match us, hl with | [_, _], _ => rfl
theorem F__law_names (h : HY K mg base) : Fun K "_law_names" "_law_names" st__law_names (Iv.A K "_law_names") (fdA K "_law_names" st__law_names) := h.fun_ 35 rfl
theorem bi__law_names (h : HY K mg base) : Binds K (fdA K "_law_names" st__law_names) ["e"] [] := (F__law_names h).binds fun _ _ _ _ _ _ us hl => match us, hl with | [_], _ => rfl
theorem F__law_error (h : HY K mg base) : Fun K "_law_error" "_law_error" st__law_error (Iv.A K "_law_error") (fdA K "_law_error" st__law_error) := h.fun_ 36 rfl
theorem bi__law_error (h : HY K mg base) : Binds K (fdA K "_law_error" st__law_error) ["call"] [] := (F__law_error h).binds fun _ _ _ _ _ _ us hl => match us, hl with | [_], _ => rfl
theorem F__law_all_refused (h : HY K mg base) : Fun K "_law_all_refused" "_law_all_refused" st__law_all_refused (Iv.A K "_law_all_refused") (fdA K "_law_all_refused" st__law_all_refused) := h.fun_ 37 rfl
theorem bi__law_all_refused (h : HY K mg base) : Binds K (fdA K "_law_all_refused" st__law_all_refused) ["call", "odds", "name"] [] := (F__law_all_refused h).binds fun _ _ _ _ _ _ us hl => match us, hl with | [_, _, _], _ => rfl
theorem F__law_known (h : HY K mg base) : Fun K "_law_known" "_law_known" st__law_known (Iv.A K "_law_known") (fdA K "_law_known" st__law_known) := h.fun_ 38 rfl
theorem bi__law_known (h : HY K mg base) : Binds K (fdA K "_law_known" st__law_known) [] [] := (F__law_known h).binds fun _ _ _ _ _ _ us hl => match us, hl with | [], _ => rfl
theorem F__law_bad_primes (h : HY K mg base) : Fun K "_law_bad_primes" "_law_bad_primes" st__law_bad_primes (Iv.A K "_law_bad_primes") (fdA K "_law_bad_primes" st__law_bad_primes) := h.fun_ 39 rfl
theorem bi__law_bad_primes (h : HY K mg base) : Binds K (fdA K "_law_bad_primes" st__law_bad_primes) [] [] := (F__law_bad_primes h).binds fun _ _ _ _ _ _ us hl => match us, hl with | [], _ => rfl
theorem F__law_fraction (h : HY K mg base) : Fun K "_law_fraction" "_law_fraction" st__law_fraction (Iv.A K "_law_fraction") (fdA K "_law_fraction" st__law_fraction) := h.fun_ 40 rfl
theorem bi__law_fraction (h : HY K mg base) : Binds K (fdA K "_law_fraction" st__law_fraction) ["vat"] [] := (F__law_fraction h).binds fun _ _ _ _ _ _ us hl => match us, hl with | [_], _ => rfl
theorem F__law_refused (h : HY K mg base) : Fun K "_law_refused" "_law_refused" st__law_refused (Iv.A K "_law_refused") (fdA K "_law_refused" st__law_refused) := h.fun_ 41 rfl
theorem bi__law_refused (h : HY K mg base) : Binds K (fdA K "_law_refused" st__law_refused) [] [] := (F__law_refused h).binds fun _ _ _ _ _ _ us hl => match us, hl with | [], _ => rfl
theorem F_law (h : HY K mg base) : Fun K "law" "law" st_law (Iv.A K "law") (fdA K "law" st_law) := h.fun_ 42 rfl
theorem bi_law (h : HY K mg base) : Binds K (fdA K "law" st_law) ["script"] [] := (F_law h).binds fun _ _ _ _ _ _ us hl => match us, hl with | [_], _ => rfl
theorem mf__law_all_refused : (("_law_all_refused", none) : He.Defn) ∈ tf := List.mem_of_getElem? (i := 0) rfl
theorem tb__law_all_refused (h : HY K mg base) : LamX.TabB base mg (He.cT K ("_law_all_refused", none)).1 (He.cT K ("_law_all_refused", none)).2 := h.TB _ mf__law_all_refused
theorem cd__law_all_refused (h : HY K mg base) : (fdA K "_law_all_refused" st__law_all_refused).code = .ref (He.cT K ("_law_all_refused", none)).1 := h.code 37 rfl
theorem mT__law_all_refused (K : PySem.W.Frag) : ((He.cT K ("_law_all_refused", none)).2, (envOfC "_law_all_refused" ⟨.function, [], false, false, []⟩ 0 0 .none).qual ++ "<lambda>") ∈ tabL K tf := List.mem_map.mpr ⟨_, mf__law_all_refused, rfl⟩
theorem hu__law_all_refused (h : HY K mg base) : ∀ p ∈ tabL K tf, p.1 = (He.cT K ("_law_all_refused", none)).2 → p.2 = (envOfC "_law_all_refused" ⟨.function, [], false, false, []⟩ 0 0 .none).qual ++ "<lambda>" := fun p hp e => tab_u (of_decide_eq_true (He.ba h.more).1) mf__law_all_refused hp e
theorem mf__law_refused : (("_law_refused", none) : He.Defn) ∈ tf := List.mem_of_getElem? (i := 1) rfl
theorem tb__law_refused (h : HY K mg base) : LamX.TabB base mg (He.cT K ("_law_refused", none)).1 (He.cT K ("_law_refused", none)).2 := h.TB _ mf__law_refused
theorem cd__law_refused (h : HY K mg base) : (fdA K "_law_refused" st__law_refused).code = .ref (He.cT K ("_law_refused", none)).1 := h.code 41 rfl
theorem mT__law_refused (K : PySem.W.Frag) : ((He.cT K ("_law_refused", none)).2, (envOfC "_law_refused" ⟨.function, [], false, false, []⟩ 0 0 .none).qual ++ "<lambda>") ∈ tabL K tf := List.mem_map.mpr ⟨_, mf__law_refused, rfl⟩
theorem hu__law_refused (h : HY K mg base) : ∀ p ∈ tabL K tf, p.1 = (He.cT K ("_law_refused", none)).2 → p.2 = (envOfC "_law_refused" ⟨.function, [], false, false, []⟩ 0 0 .none).qual ++ "<lambda>" := fun p hp e => tab_u (of_decide_eq_true (He.ba h.more).1) mf__law_refused hp e
theorem x_InvalidPrime (h : HY K mg base) : PySem.W.excIn K (Iv.A K "InvalidPrime") He.veBase "ValueError.__new__" = true := (He.exc_ok (h.c.fact 82 rfl)).1
theorem kx_InvalidPrime (h : HY K mg base) : PySem.W.keepIn K (.ref (Iv.A K "InvalidPrime")) = true := (He.exc_ok (h.c.fact 82 rfl)).2.1
theorem rs_InvalidPrime (h : HY K mg base) {X : Cx} (e : X.K = K) : Raises X (.ref (Iv.A K "InvalidPrime")) := by subst e; exact raises_own (He.exc_ok (h.c.fact 82 rfl)).2.2.1 (He.exc_ok (h.c.fact 82 rfl)).2.2.2
theorem x_InvalidFraction (h : HY K mg base) : PySem.W.excIn K (Iv.A K "InvalidFraction") He.veBase "ValueError.__new__" = true := (He.exc_ok (h.c.fact 84 rfl)).1
theorem kx_InvalidFraction (h : HY K mg base) : PySem.W.keepIn K (.ref (Iv.A K "InvalidFraction")) = true := (He.exc_ok (h.c.fact 84 rfl)).2.1
theorem rs_InvalidFraction (h : HY K mg base) {X : Cx} (e : X.K = K) : Raises X (.ref (Iv.A K "InvalidFraction")) := by subst e; exact raises_own (He.exc_ok (h.c.fact 84 rfl)).2.2.1 (He.exc_ok (h.c.fact 84 rfl)).2.2.2
theorem x_InvalidPoint (h : HY K mg base) : PySem.W.excIn K (Iv.A K "InvalidPoint") He.veBase "ValueError.__new__" = true := (He.exc_ok (h.c.fact 86 rfl)).1
theorem kx_InvalidPoint (h : HY K mg base) : PySem.W.keepIn K (.ref (Iv.A K "InvalidPoint")) = true := (He.exc_ok (h.c.fact 86 rfl)).2.1
theorem rs_InvalidPoint (h : HY K mg base) {X : Cx} (e : X.K = K) : Raises X (.ref (Iv.A K "InvalidPoint")) := by subst e; exact raises_own (He.exc_ok (h.c.fact 86 rfl)).2.2.1 (He.exc_ok (h.c.fact 86 rfl)).2.2.2
theorem x_InvalidTriangle (h : HY K mg base) : PySem.W.excIn K (Iv.A K "InvalidTriangle") He.veBase "ValueError.__new__" = true := (He.exc_ok (h.c.fact 88 rfl)).1
theorem kx_InvalidTriangle (h : HY K mg base) : PySem.W.keepIn K (.ref (Iv.A K "InvalidTriangle")) = true := (He.exc_ok (h.c.fact 88 rfl)).2.1
theorem rs_InvalidTriangle (h : HY K mg base) {X : Cx} (e : X.K = K) : Raises X (.ref (Iv.A K "InvalidTriangle")) := by subst e; exact raises_own (He.exc_ok (h.c.fact 88 rfl)).2.2.1 (He.exc_ok (h.c.fact 88 rfl)).2.2.2
theorem clM (c : Nat) : clI c ∈ clT := clMem (l := clT) (is := [0, 0, 0, 0, 1, 2, 3, 0, 0, 0, 0, 0, 0, 0, 0, 0, 0, 0, 0, 0]) (d := ("InvalidPrime", [], Str.ofString "")) (by decide) (by decide) c
theorem clK (h : HY K mg base) (c : Nat) : clOk K (clI c) = true := by
  have e := (He.ba (He.ba h.more).2).2
  have e : clT.all (clOk K) = true := by first | exact e | (simp only [Bool.and_eq_true] at e; simp only [e])
  exact List.all_eq_true.mp e _ (clM c)
theorem exm_ok (h : HY K mg base) (c : Nat) : PySem.W.exmOne K (.ref ((gs K).cls c)) (.ref (Iv.A K "OddError")) = some true := by
  have key : ∀ t ∈ clT, PySem.W.exmOne K (.ref (He.ga K t.1)) (.ref (Iv.A K "OddError")) = some true := by
    intro t ht
    simp only [clT, List.mem_cons, List.mem_nil_iff, or_false] at ht
    rcases ht with rfl | rfl | rfl | rfl
    · exact He.exm_ok (h.c.fact 83 rfl)
    · exact He.exm_ok (h.c.fact 85 rfl)
    · exact He.exm_ok (h.c.fact 87 rfl)
    · exact He.exm_ok (h.c.fact 89 rfl)
  exact key _ (clM c)
set_option maxHeartbeats 4000000 in
theorem ps_names (h : HY K mg base) {CX : CXT} {f : Addr} {cdv : Value} {A0 : Around} {outer : List PySem.Env} {s : Shared} {H : Hp} {E : XK} {p : Addr × Obj} {D : Addr} (C : ExcC K D) (hz : Zc (.ref D) none p.2) (hf : ∃ vs, p.2.data = .fields vs) (hot : L2H.Hot1 A0 p) :
    PSs (L2H.cxH CX P w K mg base ["e", "some", "labels", "label", "good"] "_law_names" (defScope st__law_names) f cdv A0 outer s H E p) (defBody st__law_names) (tWords K D p.1 (nmC (He.ga K)) nm1 nm2 nmS) := by
  have hp : (p.1, p.2) ∈ (L2H.cxH CX P w K mg base ["e", "some", "labels", "label", "good"] "_law_names" (defScope st__law_names) f cdv A0 outer s H E p).pn := by simp [L2H.cxH]
  have hc : L2H.HotC (L2H.cxH CX P w K mg base ["e", "some", "labels", "label", "good"] "_law_names" (defScope st__law_names) f cdv A0 outer s H E p) := ⟨p, hot, hp⟩
  exact pss_cons (ps_set (i := 1) sc__law_names.nd rfl (.inl rfl) (pe_lst (a_isa_cons C hp hz hf rfl (.inl rfl) rfl (z_isinstance h) (pe_glob (v := .ref (Iv.A K "InvalidShare")) rfl (g_InvalidShare h) rfl) (fun _ h => h) (a_isa_cons C hp hz hf rfl (.inl rfl) rfl (z_isinstance h) (pe_glob (v := .ref (Iv.A K "InvalidCutting")) rfl (g_InvalidCutting h) rfl) (fun _ h => h) (a_isa_cons C hp hz hf rfl (.inl rfl) rfl (z_isinstance h) (pe_glob (v := .ref (Iv.A K "InvalidNumber")) rfl (g_InvalidNumber h) rfl) (fun _ h => h) (a_isa_cons C hp hz hf rfl (.inl rfl) rfl (z_isinstance h) (pe_glob (v := .ref (Iv.A K "InvalidPrime")) rfl (g_InvalidPrime h) rfl) (fun _ h => h) (a_isa_cons C hp hz hf rfl (.inl rfl) rfl (z_isinstance h) (pe_glob (v := .ref (Iv.A K "InvalidFraction")) rfl (g_InvalidFraction h) rfl) (fun _ h => h) (a_isa_cons C hp hz hf rfl (.inl rfl) rfl (z_isinstance h) (pe_glob (v := .ref (Iv.A K "InvalidPoint")) rfl (g_InvalidPoint h) rfl) (fun _ h => h) (a_isa_cons C hp hz hf rfl (.inl rfl) rfl (z_isinstance h) (pe_glob (v := .ref (Iv.A K "InvalidTriangle")) rfl (g_InvalidTriangle h) rfl) (fun _ h => h) (a_isa_cons C hp hz hf rfl (.inl rfl) rfl (z_isinstance h) (pe_glob (v := .ref (Iv.A K "InvalidSide")) rfl (g_InvalidSide h) rfl) (fun _ h => h) (a_isa_cons C hp hz hf rfl (.inl rfl) rfl (z_isinstance h) (pe_glob (v := .ref (Iv.A K "InvalidSizes")) rfl (g_InvalidSizes h) rfl) (fun _ h => h) (a_isa_cons C hp hz hf rfl (.inl rfl) rfl (z_isinstance h) (pe_glob (v := .ref (Iv.A K "InvalidIndex")) rfl (g_InvalidIndex h) rfl) (fun _ h => h) (a_isa_cons C hp hz hf rfl (.inl rfl) rfl (z_isinstance h) (pe_glob (v := .ref (Iv.A K "InvalidCorner")) rfl (g_InvalidCorner h) rfl) (fun _ h => h) (a_isa_cons C hp hz hf rfl (.inl rfl) rfl (z_isinstance h) (pe_glob (v := .ref (Iv.A K "InvalidPart")) rfl (g_InvalidPart h) rfl) (fun _ h => h) (a_isa_cons C hp hz hf rfl (.inl rfl) rfl (z_isinstance h) (pe_glob (v := .ref (Iv.A K "InvalidHow")) rfl (g_InvalidHow h) rfl) (fun _ h => h) (a_isa_cons C hp hz hf rfl (.inl rfl) rfl (z_isinstance h) (pe_glob (v := .ref (Iv.A K "InvalidFacts")) rfl (g_InvalidFacts h) rfl) (fun _ h => h) (a_isa_cons C hp hz hf rfl (.inl rfl) rfl (z_isinstance h) (pe_glob (v := .ref (Iv.A K "InvalidText")) rfl (g_InvalidText h) rfl) (fun _ h => h) (a_isa_cons C hp hz hf rfl (.inl rfl) rfl (z_isinstance h) (pe_glob (v := .ref (Iv.A K "Apart")) rfl (g_Apart h) rfl) (fun _ h => h) (a_isa_cons C hp hz hf rfl (.inl rfl) rfl (z_isinstance h) (pe_glob (v := .ref (Iv.A K "OutOfReach")) rfl (g_OutOfReach h) rfl) (fun _ h => h) (a_isa_cons C hp hz hf rfl (.inl rfl) rfl (z_isinstance h) (pe_glob (v := .ref (Iv.A K "Unlike")) rfl (g_Unlike h) rfl) (fun _ h => h) (a_isa_cons C hp hz hf rfl (.inl rfl) rfl (z_isinstance h) (pe_glob (v := .ref (Iv.A K "NothingToUndo")) rfl (g_NothingToUndo h) rfl) (fun _ h => h) (a_isa_cons C hp hz hf rfl (.inl rfl) rfl (z_isinstance h) (pe_glob (v := .ref (Iv.A K "TooMany")) rfl (g_TooMany h) rfl) (fun _ h => h) (a_isa_cons C hp hz hf rfl (.inl rfl) rfl (z_isinstance h) (pe_bltn (v := .ty "ValueError") rfl (z_ValueError h) (by decide +kernel) rfl) (fun _ h => h) a_isa_nil)))))))))))))))))))))))
    (pss_cons (ps_set (i := 2) sc__law_names.nd rfl (.inl rfl) pe_str)
    (pss_cons (ps_set (i := 2) sc__law_names.nd rfl (.inl rfl) (pe_op op_add_str (pe_var (i := 2) rfl (.inl rfl)) pe_str))
    (pss_one (ps_ret (pe_join pe_str (pe_lcH hc sc__law_names.nd (pi_zipH (by rfl) (z_zip h) (pa_cons (pe_split (pe_var (i := 2) rfl (.inl rfl)) pe_str) (pa_cons (pe_var (i := 1) rfl (.inl rfl)) pa_nil))) (blkOk_by (own := [("label", 3), ("good", 4)]) rfl)
      (fun s H C cl fp => pg_tupH hc (pgs_cons (pg_name (i := 3) sc__law_names.nd rfl (loc_by rfl) (.inr rfl)) (pgs_cons (pg_name (i := 4) sc__law_names.nd rfl (loc_by rfl) (.inr rfl)) pgs_nil)))
      (fun s H C cl fp => pts_one (pt_truth (pe_var (i := 4) rfl (vis_by rfl)) (by intro _; rfl))) (fun s H C cl fp => pe_var (i := 3) rfl (vis_by rfl))))))))
theorem clW : ∀ t ∈ clT, t.2.1.length = 21 ∧ t.2.2 = Txt.join nmS (pick (Txt.split (nm1 ++ nm2) nmS) t.2.1) := by decide +kernel
theorem names_ok (h : HY K mg base) : NamesOk P w K mg base (gs K) 1 (Iv.A K "_law_names") (fdA K "_law_names" st__law_names) := by
  obtain ⟨oc, od, kV, doc, pm, an, cdv, ct, osl, ef, lk, hcd⟩ := (F__law_names h).ex
  rw [ef] at lk
  rw [ef]
  intro A0 outer s H us Q E p c d hr hot hpin e0 hb rv hz hf xd q
  obtain ⟨c1, c2⟩ := He.ba (clK h c)
  have c2 := of_decide_eq_true c2
  obtain ⟨hlen, hnm⟩ := clW _ (clM c)
  refine fn_ofHp lk hcd sc__law_names hr hpin e0 hb rv rfl fun hr' => ⟨_, ps_names h (excB_ok c1) (by rw [xd (fun z => nomatch z)] at hz; exact hz) hf hot,
    words_read rfl c2 (by rw [hlen]; decide +kernel) (by decide +kernel) (by decide +kernel) (by rw [hlen]; decide) (by decide +kernel) (by decide +kernel) fun H' sm => by rw [← hnm]; exact q H' sm⟩
abbrev AV (P : Program) (w : World) (K : PySem.W.Frag) (mg : Str → Option Value) (base : Heap) (n : Nat) : Prop := ValC P w K mg base (gs K) (lv n) n ∧ ValF P w K mg base (gs K) (lv n) n
set_option maxHeartbeats 4000000 in
theorem ok_common_of (h : HY K mg base) (n : Nat) : FnS P w K mg base (gs K) Emp 1 (Iv.A K "common_of") (fdA K "common_of" st_common_of) ["one", "other"] n 0 :=
  fn_okC (fi := b_common_of) (F_common_of h) sc_common_of rfl rfl rfl (by decide) rfl fun clo cok hR n hn cdv A outer s H E hcd B live cb =>
    (ss_cons (s_par2 B.calm B.nd (i := 0) (j := 1) rfl rfl (by decide) rfl rfl (a_cons (e_biF (cb_abs) (by rfl) (z_abs h) (by decide +kernel) (a_cons (e_var (i := 0) rfl (vis_by rfl)) a_nil)) (a_cons (e_biF (cb_abs) (by rfl) (z_abs h) (by decide +kernel) (a_cons (e_var (i := 1) rfl (vis_by rfl)) a_nil)) a_nil)) (by rfl))
      (ss_cons (s_while B (t_cmp (or_gt) (e_var (i := 1) rfl (vis_by rfl)) e_int (by rfl))
      (ss_cons (s_par2 B.calm B.nd (i := 0) (j := 1) rfl rfl (by decide) rfl rfl (a_cons (e_var (i := 1) rfl (vis_by rfl)) (a_cons (e_bin or_mod (e_var (i := 0) rfl (vis_by rfl)) (e_var (i := 1) rfl (vis_by rfl))) a_nil)) (by rfl))
      ss_nil))
      (ss_cons (s_ret (e_var (i := 0) rfl (vis_by rfl)))
      ss_nil)))
set_option maxHeartbeats 4000000 in
theorem ok_is_whole (h : HY K mg base) (n : Nat) : FnS P w K mg base (gs K) Emp 1 (Iv.A K "is_whole") (fdA K "is_whole" st_is_whole) ["value", "low", "high"] n 1 :=
  fn_okC (fi := b_is_whole) (F_is_whole h) sc_is_whole rfl rfl rfl (by decide) rfl fun clo cok hR n hn cdv A outer s H E hcd B live cb =>
    (ss_cons (s_ret (e_and (e_isa (by rfl) (z_isinstance h) (e_var (i := 0) rfl (vis_by rfl)) (by rfl) (z_int h) (by decide +kernel)) (e_and (e_not (e_isa (by rfl) (z_isinstance h) (e_var (i := 0) rfl (vis_by rfl)) (by rfl) (z_bool h) (by decide +kernel))) (e_one (e_chain (or_le) (or_le) (e_var (i := 1) rfl (vis_by rfl)) (e_var (i := 0) rfl (vis_by rfl)) (e_var (i := 2) rfl (vis_by rfl)))))))
      ss_nil)
set_option maxHeartbeats 4000000 in
theorem ok_is_fraction (h : HY K mg base) (n : Nat) : FnS P w K mg base (gs K) Emp 2 (Iv.A K "is_fraction") (fdA K "is_fraction" st_is_fraction) ["value"] n 2 :=
  fn_okC (fi := b_is_fraction) (F_is_fraction h) sc_is_fraction rfl rfl rfl (by decide) rfl fun clo cok hR n hn cdv A outer s H E hcd B live cb =>
    (ss_cons (s_ite (L2.PW.pt (w_or (t_not (t_val (e_isa (by rfl) (z_isinstance h) (e_var (i := 0) rfl (vis_by rfl)) (by rfl) (z_tuple h) (by decide +kernel)))) (w_one_or (t_cmp (or_ne (hu_of B)) (e_biF (cb_len) (by rfl) (z_len h) (by decide +kernel) (a_cons (e_var (i := 0) rfl (vis_by rfl)) a_nil)) e_int (by rfl)))))
      (ss_cons (s_ret e_bl)
      ss_nil)
      ss_nil)
      (ss_cons (s_ite (L2.PW.pt (w_or (t_not (t_val (e_call B (Emp.live hR) (ok_is_whole h n) hR (by decide) (by rfl) (g_is_whole h) (F_is_whole h).kp (bi_is_whole h) (a_cons (e_sub (e_var (i := 0) rfl (vis_by rfl)) e_int (fun _ _ => rfl)) (a_cons (e_neg (e_globI (by rfl) (i_FAR h))) (a_cons (e_globI (by rfl) (i_FAR h)) a_nil)))))) (w_one_or (t_not (t_val (e_call B (Emp.live hR) (ok_is_whole h n) hR (by decide) (by rfl) (g_is_whole h) (F_is_whole h).kp (bi_is_whole h) (a_cons (e_sub (e_var (i := 0) rfl (vis_by rfl)) e_int (fun _ _ => rfl)) (a_cons e_int (a_cons (e_globI (by rfl) (i_FAR h)) a_nil)))))))))
      (ss_cons (s_ret e_bl)
      ss_nil)
      ss_nil)
      (ss_cons (s_ret (e_cmp (or_eq (hu_of B)) (e_call B (Emp.live hR) (ok_common_of h n) hR (by decide) (by rfl) (g_common_of h) (F_common_of h).kp (bi_common_of h) (a_cons (e_sub (e_var (i := 0) rfl (vis_by rfl)) e_int (fun _ _ => rfl)) (a_cons (e_sub (e_var (i := 0) rfl (vis_by rfl)) e_int (fun _ _ => rfl)) a_nil))) e_int (by rfl)))
      ss_nil)))
set_option maxHeartbeats 4000000 in
theorem ok_is_point (h : HY K mg base) (n : Nat) : FnS P w K mg base (gs K) Emp 3 (Iv.A K "is_point") (fdA K "is_point" st_is_point) ["value"] n 3 :=
  fn_okC (fi := b_is_point) (F_is_point h) sc_is_point rfl rfl rfl (by decide) rfl fun clo cok hR n hn cdv A outer s H E hcd B live cb =>
    (ss_cons (s_ret (e_and (e_isa (by rfl) (z_isinstance h) (e_var (i := 0) rfl (vis_by rfl)) (by rfl) (z_tuple h) (by decide +kernel)) (e_and (e_cmp (or_eq (hu_of B)) (e_biF (cb_len) (by rfl) (z_len h) (by decide +kernel) (a_cons (e_var (i := 0) rfl (vis_by rfl)) a_nil)) e_int (by rfl)) (e_one (e_biF (cb_all B.calm) (by rfl) (z_all h) (by decide +kernel) (a_cons (e_comp B (i_over (e_var (i := 0) rfl (vis_by rfl))) (blkOk_by (own := [("part", 1)]) rfl) (by decide) (fun s H C cl fp B => ⟨(g_nm B.nd rfl (loc_by rfl) (by first | exact .inr rfl | exact .inl rfl)), c_none, (e_call B (Emp.live hR) (ok_is_fraction h n) hR (by decide) (by rfl) (g_is_fraction h) (F_is_fraction h).kp (bi_is_fraction h) (a_cons (e_var (i := 1) rfl (vis_by rfl)) a_nil))⟩)) a_nil))))))
      ss_nil)
set_option maxHeartbeats 4000000 in
theorem ok_low (h : HY K mg base) (n : Nat) : FnS P w K mg base (gs K) Emp 2 (Iv.A K "low") (fdA K "low" st_low) ["top", "below"] n 4 :=
  fn_okC (fi := b_low_points) (F_low h) sc_low rfl rfl rfl (by decide) rfl fun clo cok hR n hn cdv A outer s H E hcd B live cb =>
    (ss_cons (s_asg (e_call B (Emp.live hR) (ok_common_of h n) hR (by decide) (by rfl) (g_common_of h) (F_common_of h).kp (bi_common_of h) (a_cons (e_var (i := 0) rfl (vis_by rfl)) (a_cons (e_var (i := 1) rfl (vis_by rfl)) a_nil))) (g_nm B.nd rfl (loc_by rfl) (by first | exact .inr rfl | exact .inl rfl)))
      (ss_cons (s_asg (e_ite (t_cmp (or_gt) (e_var (i := 1) rfl (vis_by rfl)) e_int (by rfl)) (e_var (i := 2) rfl (vis_by rfl)) (e_neg (e_var (i := 2) rfl (vis_by rfl)))) (g_nm B.nd rfl (loc_by rfl) (by first | exact .inr rfl | exact .inl rfl)))
      (ss_cons (s_ret (e_tup (a_cons (e_bin or_fdiv (e_var (i := 0) rfl (vis_by rfl)) (e_var (i := 2) rfl (vis_by rfl))) (a_cons (e_bin or_fdiv (e_var (i := 1) rfl (vis_by rfl)) (e_var (i := 2) rfl (vis_by rfl))) a_nil))))
      ss_nil)))
set_option maxHeartbeats 4000000 in
theorem ok_minus (h : HY K mg base) (n : Nat) : FnS P w K mg base (gs K) Emp 3 (Iv.A K "minus") (fdA K "minus" st_minus) ["one", "other"] n 5 :=
  fn_okC (fi := b_minus) (F_minus h) sc_minus rfl rfl rfl (by decide) rfl fun clo cok hR n hn cdv A outer s H E hcd B live cb =>
    (ss_cons (s_ret (e_call B (Emp.live hR) (ok_low h n) hR (by decide) (by rfl) (g_low h) (F_low h).kp (bi_low h) (a_cons (e_bin or_sub (e_bin or_mul (e_sub (e_var (i := 0) rfl (vis_by rfl)) e_int (fun _ _ => rfl)) (e_sub (e_var (i := 1) rfl (vis_by rfl)) e_int (fun _ _ => rfl))) (e_bin or_mul (e_sub (e_var (i := 1) rfl (vis_by rfl)) e_int (fun _ _ => rfl)) (e_sub (e_var (i := 0) rfl (vis_by rfl)) e_int (fun _ _ => rfl)))) (a_cons (e_bin or_mul (e_sub (e_var (i := 0) rfl (vis_by rfl)) e_int (fun _ _ => rfl)) (e_sub (e_var (i := 1) rfl (vis_by rfl)) e_int (fun _ _ => rfl))) a_nil))))
      ss_nil)
set_option maxHeartbeats 4000000 in
theorem ok_times (h : HY K mg base) (n : Nat) : FnS P w K mg base (gs K) Emp 3 (Iv.A K "times") (fdA K "times" st_times) ["one", "other"] n 6 :=
  fn_okC (fi := b_times) (F_times h) sc_times rfl rfl rfl (by decide) rfl fun clo cok hR n hn cdv A outer s H E hcd B live cb =>
    (ss_cons (s_ret (e_call B (Emp.live hR) (ok_low h n) hR (by decide) (by rfl) (g_low h) (F_low h).kp (bi_low h) (a_cons (e_bin or_mul (e_sub (e_var (i := 0) rfl (vis_by rfl)) e_int (fun _ _ => rfl)) (e_sub (e_var (i := 1) rfl (vis_by rfl)) e_int (fun _ _ => rfl))) (a_cons (e_bin or_mul (e_sub (e_var (i := 0) rfl (vis_by rfl)) e_int (fun _ _ => rfl)) (e_sub (e_var (i := 1) rfl (vis_by rfl)) e_int (fun _ _ => rfl))) a_nil))))
      ss_nil)
set_option maxHeartbeats 4000000 in
theorem ok_turn_of (h : HY K mg base) (n : Nat) : FnS P w K mg base (gs K) Emp 4 (Iv.A K "turn_of") (fdA K "turn_of" st_turn_of) ["one", "other", "third"] n 7 :=
  fn_okC (fi := b_turn_of) (F_turn_of h) sc_turn_of rfl rfl rfl (by decide) rfl fun clo cok hR n hn cdv A outer s H E hcd B live cb =>
    (ss_cons (s_asg (e_call B (Emp.live hR) (ok_times h n) hR (by decide) (by rfl) (g_times h) (F_times h).kp (bi_times h) (a_cons (e_call B (Emp.live hR) (ok_minus h n) hR (by decide) (by rfl) (g_minus h) (F_minus h).kp (bi_minus h) (a_cons (e_sub (e_var (i := 1) rfl (vis_by rfl)) e_int (fun _ _ => rfl)) (a_cons (e_sub (e_var (i := 0) rfl (vis_by rfl)) e_int (fun _ _ => rfl)) a_nil))) (a_cons (e_call B (Emp.live hR) (ok_minus h n) hR (by decide) (by rfl) (g_minus h) (F_minus h).kp (bi_minus h) (a_cons (e_sub (e_var (i := 2) rfl (vis_by rfl)) e_int (fun _ _ => rfl)) (a_cons (e_sub (e_var (i := 0) rfl (vis_by rfl)) e_int (fun _ _ => rfl)) a_nil))) a_nil))) (g_nm B.nd rfl (loc_by rfl) (by first | exact .inr rfl | exact .inl rfl)))
      (ss_cons (s_ret (e_call B (Emp.live hR) (ok_minus h n) hR (by decide) (by rfl) (g_minus h) (F_minus h).kp (bi_minus h) (a_cons (e_var (i := 3) rfl (vis_by rfl)) (a_cons (e_call B (Emp.live hR) (ok_times h n) hR (by decide) (by rfl) (g_times h) (F_times h).kp (bi_times h) (a_cons (e_call B (Emp.live hR) (ok_minus h n) hR (by decide) (by rfl) (g_minus h) (F_minus h).kp (bi_minus h) (a_cons (e_sub (e_var (i := 1) rfl (vis_by rfl)) e_int (fun _ _ => rfl)) (a_cons (e_sub (e_var (i := 0) rfl (vis_by rfl)) e_int (fun _ _ => rfl)) a_nil))) (a_cons (e_call B (Emp.live hR) (ok_minus h n) hR (by decide) (by rfl) (g_minus h) (F_minus h).kp (bi_minus h) (a_cons (e_sub (e_var (i := 2) rfl (vis_by rfl)) e_int (fun _ _ => rfl)) (a_cons (e_sub (e_var (i := 0) rfl (vis_by rfl)) e_int (fun _ _ => rfl)) a_nil))) a_nil))) a_nil))))
      ss_nil))
set_option maxHeartbeats 4000000 in
theorem ok_size_of (h : HY K mg base) (n : Nat) : FnS P w K mg base (gs K) Emp 5 (Iv.A K "size_of") (fdA K "size_of" st_size_of) ["triangle"] n 8 :=
  fn_okC (fi := b_size_of) (F_size_of h) sc_size_of rfl rfl rfl (by decide) rfl fun clo cok hR n hn cdv A outer s H E hcd B live cb =>
    (ss_cons (s_asg (e_call B (Emp.live hR) (ok_turn_of h n) hR (by decide) (by rfl) (g_turn_of h) (F_turn_of h).kp (bi_turn_of h) (a_cons (e_sub (e_var (i := 0) rfl (vis_by rfl)) e_int (fun _ _ => rfl)) (a_cons (e_sub (e_var (i := 0) rfl (vis_by rfl)) e_int (fun _ _ => rfl)) (a_cons (e_sub (e_var (i := 0) rfl (vis_by rfl)) e_int (fun _ _ => rfl)) a_nil)))) (g_p2 B.calm (g_nm B.nd rfl (loc_by rfl) (by first | exact .inr rfl | exact .inl rfl)) (g_nm B.nd rfl (loc_by rfl) (by first | exact .inr rfl | exact .inl rfl)) rfl rfl rfl rfl))
      (ss_cons (s_ret (e_call B (Emp.live hR) (ok_low h n) hR (by decide) (by rfl) (g_low h) (F_low h).kp (bi_low h) (a_cons (e_biF (cb_abs) (by rfl) (z_abs h) (by decide +kernel) (a_cons (e_var (i := 1) rfl (vis_by rfl)) a_nil)) (a_cons (e_bin or_mul e_int (e_var (i := 2) rfl (vis_by rfl))) a_nil))))
      ss_nil))
set_option maxHeartbeats 4000000 in
theorem ok_is_good_triangle (h : HY K mg base) (n : Nat) : FnS P w K mg base (gs K) Emp 6 (Iv.A K "is_good_triangle") (fdA K "is_good_triangle" st_is_good_triangle) ["value"] n 9 :=
  fn_okC (fi := b_is_good_triangle) (F_is_good_triangle h) sc_is_good_triangle rfl rfl rfl (by decide) rfl fun clo cok hR n hn cdv A outer s H E hcd B live cb =>
    (ss_cons (s_ite (L2.PW.pt (w_or (t_not (t_val (e_isa (by rfl) (z_isinstance h) (e_var (i := 0) rfl (vis_by rfl)) (by rfl) (z_tuple h) (by decide +kernel)))) (w_or (t_cmp (or_ne (hu_of B)) (e_biF (cb_len) (by rfl) (z_len h) (by decide +kernel) (a_cons (e_var (i := 0) rfl (vis_by rfl)) a_nil)) e_int (by rfl)) (w_one_or (t_not (t_val (e_biF (cb_all B.calm) (by rfl) (z_all h) (by decide +kernel) (a_cons (e_comp B (i_over (e_var (i := 0) rfl (vis_by rfl))) (blkOk_by (own := [("point", 1)]) rfl) (by decide) (fun s H C cl fp B => ⟨(g_nm B.nd rfl (loc_by rfl) (by first | exact .inr rfl | exact .inl rfl)), c_none, (e_call B (Emp.live hR) (ok_is_point h n) hR (by decide) (by rfl) (g_is_point h) (F_is_point h).kp (bi_is_point h) (a_cons (e_var (i := 1) rfl (vis_by rfl)) a_nil))⟩)) a_nil))))))))
      (ss_cons (s_ret e_bl)
      ss_nil)
      ss_nil)
      (ss_cons (s_ret (e_and (e_chain (or_lt (hu_of B)) (or_lt (hu_of B)) (e_sub (e_var (i := 0) rfl (vis_by rfl)) e_int (fun _ _ => rfl)) (e_sub (e_var (i := 0) rfl (vis_by rfl)) e_int (fun _ _ => rfl)) (e_sub (e_var (i := 0) rfl (vis_by rfl)) e_int (fun _ _ => rfl))) (e_one (e_cmp (or_ne (hu_of B)) (e_call B (Emp.live hR) (ok_size_of h n) hR (by decide) (by rfl) (g_size_of h) (F_size_of h).kp (bi_size_of h) (a_cons (e_var (i := 0) rfl (vis_by rfl)) a_nil)) (e_tup (a_cons e_int (a_cons e_int a_nil))) (by rfl)))))
      ss_nil))
set_option maxHeartbeats 4000000 in
theorem ok_divides (h : HY K mg base) (n : Nat) : FnS P w K mg base (gs K) Emp 1 (Iv.A K "divides") (fdA K "divides" st_divides) ["prime", "number"] n 10 :=
  fn_okC (fi := b_divides) (F_divides h) sc_divides rfl rfl rfl (by decide) rfl fun clo cok hR n hn cdv A outer s H E hcd B live cb =>
    (ss_cons (s_asg e_int (g_nm B.nd rfl (loc_by rfl) (by first | exact .inr rfl | exact .inl rfl)))
      (ss_cons (s_while B (t_cmp (or_eq (hu_of B)) (e_bin or_mod (e_var (i := 1) rfl (vis_by rfl)) (e_var (i := 0) rfl (vis_by rfl))) e_int (by rfl))
      (ss_cons (s_par2 B.calm B.nd (i := 1) (j := 2) rfl rfl (by decide) rfl rfl (a_cons (e_bin or_fdiv (e_var (i := 1) rfl (vis_by rfl)) (e_var (i := 0) rfl (vis_by rfl))) (a_cons (e_bin or_add (e_var (i := 2) rfl (vis_by rfl)) e_int) a_nil)) (by rfl))
      ss_nil))
      (ss_cons (s_ret (e_var (i := 2) rfl (vis_by rfl)))
      ss_nil)))
set_option maxHeartbeats 4000000 in
theorem ok_times_in (h : HY K mg base) (n : Nat) : FnS P w K mg base (gs K) Emp 2 (Iv.A K "times_in") (fdA K "times_in" st_times_in) ["prime", "fraction"] n 11 :=
  fn_okC (fi := b_times_in) (F_times_in h) sc_times_in rfl rfl rfl (by decide) rfl fun clo cok hR n hn cdv A outer s H E hcd B live cb =>
    (ss_cons (s_ite (t_cmp (or_eq (hu_of B)) (e_sub (e_var (i := 1) rfl (vis_by rfl)) e_int (fun _ _ => rfl)) e_int (by rfl))
      (ss_cons (s_ret e_non)
      ss_nil)
      ss_nil)
      (ss_cons (s_ret (e_bin or_sub (e_call B (Emp.live hR) (ok_divides h n) hR (by decide) (by rfl) (g_divides h) (F_divides h).kp (bi_divides h) (a_cons (e_var (i := 0) rfl (vis_by rfl)) (a_cons (e_sub (e_var (i := 1) rfl (vis_by rfl)) e_int (fun _ _ => rfl)) a_nil))) (e_call B (Emp.live hR) (ok_divides h n) hR (by decide) (by rfl) (g_divides h) (F_divides h).kp (bi_divides h) (a_cons (e_var (i := 0) rfl (vis_by rfl)) (a_cons (e_sub (e_var (i := 1) rfl (vis_by rfl)) e_int (fun _ _ => rfl)) a_nil)))))
      ss_nil))
set_option maxHeartbeats 4000000 in
theorem ok_hue_of (h : HY K mg base) (n : Nat) : FnS P w K mg base (gs K) Emp 3 (Iv.A K "hue_of") (fdA K "hue_of" st_hue_of) ["prime", "point"] n 12 :=
  fn_okC (fi := b_hue_of) (F_hue_of h) sc_hue_of rfl rfl rfl (by decide) rfl fun clo cok hR n hn cdv A outer s H E hcd B live cb =>
    (ss_cons (s_par2 B.calm B.nd (i := 2) (j := 3) rfl rfl (by decide) rfl rfl (a_cons (e_call B (Emp.live hR) (ok_times_in h n) hR (by decide) (by rfl) (g_times_in h) (F_times_in h).kp (bi_times_in h) (a_cons (e_var (i := 0) rfl (vis_by rfl)) (a_cons (e_sub (e_var (i := 1) rfl (vis_by rfl)) e_int (fun _ _ => rfl)) a_nil))) (a_cons (e_call B (Emp.live hR) (ok_times_in h n) hR (by decide) (by rfl) (g_times_in h) (F_times_in h).kp (bi_times_in h) (a_cons (e_var (i := 0) rfl (vis_by rfl)) (a_cons (e_sub (e_var (i := 1) rfl (vis_by rfl)) e_int (fun _ _ => rfl)) a_nil))) a_nil)) (by rfl))
      (ss_cons (s_ite (L2.PW.pt (w_and (t_cmp (or_isnot) (e_var (i := 2) rfl (vis_by rfl)) e_non (by rfl)) (w_and (t_cmp (or_le) (e_var (i := 2) rfl (vis_by rfl)) e_int (by rfl)) (w_one_and (L2.PW.pt (w_or (t_cmp (or_is) (e_var (i := 3) rfl (vis_by rfl)) e_non (by rfl)) (w_one_or (t_cmp (or_le) (e_var (i := 2) rfl (vis_by rfl)) (e_var (i := 3) rfl (vis_by rfl)) (by rfl)))))))))
      (ss_cons (s_ret e_str)
      ss_nil)
      ss_nil)
      (ss_cons (s_ret (e_ite (L2.PW.pt (w_and (t_cmp (or_isnot) (e_var (i := 3) rfl (vis_by rfl)) e_non (by rfl)) (w_one_and (t_cmp (or_le) (e_var (i := 3) rfl (vis_by rfl)) e_int (by rfl))))) e_str e_str))
      ss_nil)))
set_option maxHeartbeats 4000000 in
theorem ok_is_prime (h : HY K mg base) (n : Nat) : FnS P w K mg base (gs K) Emp 2 (Iv.A K "is_prime") (fdA K "is_prime" st_is_prime) ["value"] n 13 :=
  fn_okC (fi := b_is_prime) (F_is_prime h) sc_is_prime rfl rfl rfl (by decide) rfl fun clo cok hR n hn cdv A outer s H E hcd B live cb =>
    (ss_cons (s_ret (e_and (e_call B (Emp.live hR) (ok_is_whole h n) hR (by decide) (by rfl) (g_is_whole h) (F_is_whole h).kp (bi_is_whole h) (a_cons (e_var (i := 0) rfl (vis_by rfl)) (a_cons e_int (a_cons (e_globI (by rfl) (i_LAST_PRIME h)) a_nil)))) (e_one (e_biF (cb_all B.calm) (by rfl) (z_all h) (by decide +kernel) (a_cons (e_comp B (i_range2 (by rfl) (z_range h) e_int (e_var (i := 0) rfl (vis_by rfl))) (blkOk_by (own := [("part", 1)]) rfl) (by decide) (fun s H C cl fp B => ⟨(g_nm B.nd rfl (loc_by rfl) (by first | exact .inr rfl | exact .inl rfl)), c_none, (e_cmp (or_gt) (e_bin or_mod (e_var (i := 0) rfl (vis_by rfl)) (e_var (i := 1) rfl (vis_by rfl))) e_int (by rfl))⟩)) a_nil)))))
      ss_nil)
set_option maxHeartbeats 4000000 in
theorem ok_need_prime (h : HY K mg base) (n : Nat) : FnS P w K mg base (gs K) Emp 3 (Iv.A K "need_prime") (fdA K "need_prime" st_need_prime) ["prime"] n 14 :=
  fn_okC (fi := b_need_prime) (F_need_prime h) sc_need_prime rfl rfl rfl (by decide) rfl fun clo cok hR n hn cdv A outer s H E hcd B live cb =>
    (ss_cons (s_ite (t_not (t_val (e_call B (Emp.live hR) (ok_is_prime h n) hR (by decide) (by rfl) (g_is_prime h) (F_is_prime h).kp (bi_is_prime h) (a_cons (e_var (i := 0) rfl (vis_by rfl)) a_nil))))
      (ss_cons (s_raise B (L2N.pmk_own PySem.F.excBase_ValueError (x_InvalidPrime h) (g_InvalidPrime h) (kx_InvalidPrime h) (rs_InvalidPrime h rfl) (by rfl)))
      ss_nil)
      ss_nil)
      ss_nil)
set_option maxHeartbeats 4000000 in
theorem ok_stands (h : HY K mg base) (n : Nat) : FnS P w K mg base (gs K) Emp 4 (Iv.A K "stands") (fdA K "stands" st_stands) ["prime", "fraction"] n 15 :=
  fn_okC (fi := b_stands) (F_stands h) sc_stands rfl rfl rfl (by decide) rfl fun clo cok hR n hn cdv A outer s H E hcd B live cb =>
    (ss_cons (s_expr (e_call B (Emp.live hR) (ok_need_prime h n) hR (by decide) (by rfl) (g_need_prime h) (F_need_prime h).kp (bi_need_prime h) (a_cons (e_var (i := 0) rfl (vis_by rfl)) a_nil)))
      (ss_cons (s_ite (t_not (t_val (e_call B (Emp.live hR) (ok_is_fraction h n) hR (by decide) (by rfl) (g_is_fraction h) (F_is_fraction h).kp (bi_is_fraction h) (a_cons (e_var (i := 1) rfl (vis_by rfl)) a_nil))))
      (ss_cons (s_raise B (L2N.pmk_own PySem.F.excBase_ValueError (x_InvalidFraction h) (g_InvalidFraction h) (kx_InvalidFraction h) (rs_InvalidFraction h rfl) (by rfl)))
      ss_nil)
      ss_nil)
      (ss_cons (s_ret (e_call B (Emp.live hR) (ok_times_in h n) hR (by decide) (by rfl) (g_times_in h) (F_times_in h).kp (bi_times_in h) (a_cons (e_var (i := 0) rfl (vis_by rfl)) (a_cons (e_var (i := 1) rfl (vis_by rfl)) a_nil))))
      ss_nil)))
set_option maxHeartbeats 4000000 in
theorem ok_hue (h : HY K mg base) (n : Nat) : FnS P w K mg base (gs K) Emp 4 (Iv.A K "hue") (fdA K "hue" st_hue) ["prime", "point"] n 16 :=
  fn_okC (fi := b_hue) (F_hue h) sc_hue rfl rfl rfl (by decide) rfl fun clo cok hR n hn cdv A outer s H E hcd B live cb =>
    (ss_cons (s_expr (e_call B (Emp.live hR) (ok_need_prime h n) hR (by decide) (by rfl) (g_need_prime h) (F_need_prime h).kp (bi_need_prime h) (a_cons (e_var (i := 0) rfl (vis_by rfl)) a_nil)))
      (ss_cons (s_ite (t_not (t_val (e_call B (Emp.live hR) (ok_is_point h n) hR (by decide) (by rfl) (g_is_point h) (F_is_point h).kp (bi_is_point h) (a_cons (e_var (i := 1) rfl (vis_by rfl)) a_nil))))
      (ss_cons (s_raise B (L2N.pmk_own PySem.F.excBase_ValueError (x_InvalidPoint h) (g_InvalidPoint h) (kx_InvalidPoint h) (rs_InvalidPoint h rfl) (by rfl)))
      ss_nil)
      ss_nil)
      (ss_cons (s_ret (e_call B (Emp.live hR) (ok_hue_of h n) hR (by decide) (by rfl) (g_hue_of h) (F_hue_of h).kp (bi_hue_of h) (a_cons (e_var (i := 0) rfl (vis_by rfl)) (a_cons (e_var (i := 1) rfl (vis_by rfl)) a_nil))))
      ss_nil)))
set_option maxHeartbeats 4000000 in
theorem ok_is_triangle (h : HY K mg base) (n : Nat) : FnS P w K mg base (gs K) Emp 7 (Iv.A K "is_triangle") (fdA K "is_triangle" st_is_triangle) ["value"] n 17 :=
  fn_okC (fi := b_is_triangle) (F_is_triangle h) sc_is_triangle rfl rfl rfl (by decide) rfl fun clo cok hR n hn cdv A outer s H E hcd B live cb =>
    (ss_cons (s_ret (e_call B (Emp.live hR) (ok_is_good_triangle h n) hR (by decide) (by rfl) (g_is_good_triangle h) (F_is_good_triangle h).kp (bi_is_good_triangle h) (a_cons (e_var (i := 0) rfl (vis_by rfl)) a_nil)))
      ss_nil)
set_option maxHeartbeats 4000000 in
theorem ok_size (h : HY K mg base) (n : Nat) : FnS P w K mg base (gs K) Emp 7 (Iv.A K "size") (fdA K "size" st_size) ["triangle"] n 18 :=
  fn_okC (fi := b_size) (F_size h) sc_size rfl rfl rfl (by decide) rfl fun clo cok hR n hn cdv A outer s H E hcd B live cb =>
    (ss_cons (s_ite (t_not (t_val (e_call B (Emp.live hR) (ok_is_good_triangle h n) hR (by decide) (by rfl) (g_is_good_triangle h) (F_is_good_triangle h).kp (bi_is_good_triangle h) (a_cons (e_var (i := 0) rfl (vis_by rfl)) a_nil))))
      (ss_cons (s_raise B (L2N.pmk_own PySem.F.excBase_ValueError (x_InvalidTriangle h) (g_InvalidTriangle h) (kx_InvalidTriangle h) (rs_InvalidTriangle h rfl) (by rfl)))
      ss_nil)
      ss_nil)
      (ss_cons (s_ret (e_call B (Emp.live hR) (ok_size_of h n) hR (by decide) (by rfl) (g_size_of h) (F_size_of h).kp (bi_size_of h) (a_cons (e_var (i := 0) rfl (vis_by rfl)) a_nil)))
      ss_nil))
set_option maxHeartbeats 4000000 in
theorem ok__law_vat (h : HY K mg base) (n : Nat) : FnS P w K mg base (gs K) Emp 1 (Iv.A K "_law_vat") (fdA K "_law_vat" st__law_vat) ["script", "k"] n 19 :=
  fn_okC (fi := b__law_vat) (F__law_vat h) sc__law_vat rfl rfl rfl (by decide) rfl fun clo cok hR n hn cdv A outer s H E hcd B live cb =>
    (ss_cons (s_asg (e_bin or_add (e_bin or_mul e_int (e_var (i := 1) rfl (vis_by rfl))) e_int) (g_nm B.nd rfl (loc_by rfl) (by first | exact .inr rfl | exact .inl rfl)))
      (ss_cons (s_ite (t_cmp (or_lt (hu_of B)) (e_var (i := 1) rfl (vis_by rfl)) (e_biF (cb_len) (by rfl) (z_len h) (by decide +kernel) (a_cons (e_var (i := 0) rfl (vis_by rfl)) a_nil)) (by rfl))
      (ss_cons (s_asg (e_biF (cb_abs) (by rfl) (z_abs h) (by decide +kernel) (a_cons (e_biT cb_int (by rfl) (z_int h) (by decide +kernel) (a_cons (e_sub (e_var (i := 0) rfl (vis_by rfl)) (e_var (i := 1) rfl (vis_by rfl)) (fun _ _ => rfl)) a_nil)) a_nil)) (g_nm B.nd rfl (loc_by rfl) (by first | exact .inr rfl | exact .inl rfl)))
      ss_nil)
      ss_nil)
      (ss_cons (s_retNew (a_cons (e_ite (t_cmp (or_ge) (e_var (i := 2) rfl (vis_by rfl)) (e_bin or_pow e_int e_int) (by rfl)) (e_var (i := 2) rfl (vis_by rfl)) e_int) (a_cons (e_bin or_add (e_bin or_mod (e_biT cb_int (by rfl) (z_int h) (by decide +kernel) (a_cons (e_bin or_add (e_bin or_add (e_bin or_mul (e_var (i := 2) rfl (vis_by rfl)) e_int) (e_bin or_mul e_int (e_var (i := 1) rfl (vis_by rfl)))) e_int) a_nil)) e_int) e_int) a_nil)))
      ss_nil)))
set_option maxHeartbeats 4000000 in
theorem ok__law_under (h : HY K mg base) (n : Nat) : FnS P w K mg base (gs K) Emp 1 (Iv.A K "_law_under") (fdA K "_law_under" st__law_under) ["vat", "many"] n 20 :=
  fn_okC (fi := b__law_under) (F__law_under h) sc__law_under rfl rfl rfl (by decide) rfl fun clo cok hR n hn cdv A outer s H E hcd B live cb =>
    (ss_cons (s_ite (t_cmp (or_gt) (e_sub (e_var (i := 0) rfl (vis_by rfl)) e_int (fun _ _ => rfl)) e_int (by rfl))
      (ss_cons (s_asg (e_bin or_mod (e_biT cb_int (by rfl) (z_int h) (by decide +kernel) (a_cons (e_sub (e_var (i := 0) rfl (vis_by rfl)) e_int (fun _ _ => rfl)) a_nil)) (e_var (i := 1) rfl (vis_by rfl))) (g_nm B.nd rfl (loc_by rfl) (by first | exact .inr rfl | exact .inl rfl)))
      (ss_cons (s_setix (e_bin or_fdiv (e_sub (e_var (i := 0) rfl (vis_by rfl)) e_int (fun _ _ => rfl)) (e_var (i := 1) rfl (vis_by rfl))) (e_var (i := 0) rfl (vis_by rfl)) e_int)
      (ss_cons (s_ret (e_var (i := 2) rfl (vis_by rfl)))
      ss_nil)))
      ss_nil)
      (ss_cons (s_setix (e_bin or_mod (e_biT cb_int (by rfl) (z_int h) (by decide +kernel) (a_cons (e_bin or_add (e_bin or_mul (e_sub (e_var (i := 0) rfl (vis_by rfl)) e_int (fun _ _ => rfl)) e_int) e_int) a_nil)) e_int) (e_var (i := 0) rfl (vis_by rfl)) e_int)
      (ss_cons (s_asg (e_bin or_mod (e_biT cb_int (by rfl) (z_int h) (by decide +kernel) (a_cons (e_bin or_mul (e_sub (e_var (i := 0) rfl (vis_by rfl)) e_int (fun _ _ => rfl)) (e_bin or_add (e_bin or_fdiv (e_sub (e_var (i := 0) rfl (vis_by rfl)) e_int (fun _ _ => rfl)) e_int) e_int)) a_nil)) e_int) (g_nm B.nd rfl (loc_by rfl) (by first | exact .inr rfl | exact .inl rfl)))
      (ss_cons (s_ret (e_bin or_mod (e_biT cb_int (by rfl) (z_int h) (by decide +kernel) (a_cons (e_bin or_fdiv (e_var (i := 3) rfl (vis_by rfl)) e_int) a_nil)) (e_var (i := 1) rfl (vis_by rfl))))
      ss_nil))))
set_option maxHeartbeats 4000000 in
theorem ok__law_some (h : HY K mg base) (n : Nat) : FnS P w K mg base (gs K) Emp 2 (Iv.A K "_law_some") (fdA K "_law_some" st__law_some) ["vat", "things"] n 21 :=
  fn_okC (fi := b__law_some) (F__law_some h) sc__law_some rfl rfl rfl (by decide) rfl fun clo cok hR n hn cdv A outer s H E hcd B live cb =>
    (ss_cons (s_ret (e_sub (e_var (i := 1) rfl (vis_by rfl)) (e_call B (Emp.live hR) (ok__law_under h n) hR (by decide) (by rfl) (g__law_under h) (F__law_under h).kp (bi__law_under h) (a_cons (e_var (i := 0) rfl (vis_by rfl)) (a_cons (e_biF (cb_len) (by rfl) (z_len h) (by decide +kernel) (a_cons (e_var (i := 1) rfl (vis_by rfl)) a_nil)) a_nil))) (fun _ _ => rfl)))
      ss_nil)
set_option maxHeartbeats 4000000 in
theorem ok__law_is_whole (h : HY K mg base) (n : Nat) : FnS P w K mg base (gs K) Emp 1 (Iv.A K "_law_is_whole") (fdA K "_law_is_whole" st__law_is_whole) ["value", "floor_so", "top_so"] n 22 :=
  fn_okC (fi := b__law_is_whole) (F__law_is_whole h) sc__law_is_whole rfl rfl rfl (by decide) rfl fun clo cok hR n hn cdv A outer s H E hcd B live cb =>
    (ss_cons (s_ret (e_and (e_isa (by rfl) (z_isinstance h) (e_var (i := 0) rfl (vis_by rfl)) (by rfl) (z_int h) (by decide +kernel)) (e_and (e_not (e_isa (by rfl) (z_isinstance h) (e_var (i := 0) rfl (vis_by rfl)) (by rfl) (z_bool h) (by decide +kernel))) (e_one (e_chain (or_le) (or_le) (e_var (i := 1) rfl (vis_by rfl)) (e_var (i := 0) rfl (vis_by rfl)) (e_var (i := 2) rfl (vis_by rfl)))))))
      ss_nil)
set_option maxHeartbeats 4000000 in
theorem ok__law_truly (h : HY K mg base) (n : Nat) : FnS P w K mg base (gs K) Emp 1 (Iv.A K "_law_truly") (fdA K "_law_truly" st__law_truly) ["found", "due"] n 23 :=
  fn_okC (fi := b__law_truly) (F__law_truly h) sc__law_truly rfl rfl rfl (by decide) rfl fun clo cok hR n hn cdv A outer s H E hcd B live cb =>
    (ss_cons (s_ret (e_and (e_isa (by rfl) (z_isinstance h) (e_var (i := 0) rfl (vis_by rfl)) (by rfl) (z_bool h) (by decide +kernel)) (e_one (e_cmp (or_eq (hu_of B)) (e_var (i := 0) rfl (vis_by rfl)) (e_var (i := 1) rfl (vis_by rfl)) (by rfl)))))
      ss_nil)
set_option maxHeartbeats 4000000 in
theorem ok__law_gcd (h : HY K mg base) (n : Nat) : FnS P w K mg base (gs K) Emp 1 (Iv.A K "_law_gcd") (fdA K "_law_gcd" st__law_gcd) ["one", "other"] n 24 :=
  fn_okC (fi := b__law_gcd) (F__law_gcd h) sc__law_gcd rfl rfl rfl (by decide) rfl fun clo cok hR n hn cdv A outer s H E hcd B live cb =>
    (ss_cons (s_while B (t_cmp (or_ne (hu_of B)) (e_var (i := 1) rfl (vis_by rfl)) e_int (by rfl))
      (ss_cons (s_par2 B.calm B.nd (i := 0) (j := 1) rfl rfl (by decide) rfl rfl (a_cons (e_var (i := 1) rfl (vis_by rfl)) (a_cons (e_bin or_mod (e_var (i := 0) rfl (vis_by rfl)) (e_var (i := 1) rfl (vis_by rfl))) a_nil)) (by rfl))
      ss_nil))
      (ss_cons (s_ret (e_biF (cb_abs) (by rfl) (z_abs h) (by decide +kernel) (a_cons (e_var (i := 0) rfl (vis_by rfl)) a_nil)))
      ss_nil))
set_option maxHeartbeats 4000000 in
theorem ok__law_low (h : HY K mg base) (n : Nat) : FnS P w K mg base (gs K) Emp 2 (Iv.A K "_law_low") (fdA K "_law_low" st__law_low) ["top", "below"] n 25 :=
  fn_okC (fi := b__law_low) (F__law_low h) sc__law_low rfl rfl rfl (by decide) rfl fun clo cok hR n hn cdv A outer s H E hcd B live cb =>
    (ss_cons (s_asg (e_bin or_mul (e_call B (Emp.live hR) (ok__law_gcd h n) hR (by decide) (by rfl) (g__law_gcd h) (F__law_gcd h).kp (bi__law_gcd h) (a_cons (e_var (i := 0) rfl (vis_by rfl)) (a_cons (e_var (i := 1) rfl (vis_by rfl)) a_nil))) (e_ite (t_cmp (or_gt) (e_var (i := 1) rfl (vis_by rfl)) e_int (by rfl)) e_int (e_neg e_int))) (g_nm B.nd rfl (loc_by rfl) (by first | exact .inr rfl | exact .inl rfl)))
      (ss_cons (s_ret (e_tup (a_cons (e_bin or_fdiv (e_var (i := 0) rfl (vis_by rfl)) (e_var (i := 2) rfl (vis_by rfl))) (a_cons (e_bin or_fdiv (e_var (i := 1) rfl (vis_by rfl)) (e_var (i := 2) rfl (vis_by rfl))) a_nil))))
      ss_nil))
set_option maxHeartbeats 4000000 in
theorem ok__law_sum (h : HY K mg base) (n : Nat) : FnS P w K mg base (gs K) Emp 3 (Iv.A K "_law_sum") (fdA K "_law_sum" st__law_sum) ["parts_so"] n 26 :=
  fn_okC (fi := b__law_sum) (F__law_sum h) sc__law_sum rfl rfl rfl (by decide) rfl fun clo cok hR n hn cdv A outer s H E hcd B live cb =>
    (ss_cons (s_asg (e_tup (a_cons e_int (a_cons e_int a_nil))) (g_p2 B.calm (g_nm B.nd rfl (loc_by rfl) (by first | exact .inr rfl | exact .inl rfl)) (g_nm B.nd rfl (loc_by rfl) (by first | exact .inr rfl | exact .inl rfl)) rfl rfl rfl rfl))
      (ss_cons (s_for B (i_over (e_var (i := 0) rfl (vis_by rfl))) (g_p2 B.calm (g_nm B.nd rfl (loc_by rfl) (by first | exact .inr rfl | exact .inl rfl)) (g_nm B.nd rfl (loc_by rfl) (by first | exact .inr rfl | exact .inl rfl)) rfl rfl rfl rfl)
      (ss_cons (s_asg (e_call B (Emp.live hR) (ok__law_low h n) hR (by decide) (by rfl) (g__law_low h) (F__law_low h).kp (bi__law_low h) (a_cons (e_bin or_add (e_bin or_mul (e_var (i := 1) rfl (vis_by rfl)) (e_var (i := 4) rfl (vis_by rfl))) (e_bin or_mul (e_var (i := 3) rfl (vis_by rfl)) (e_var (i := 2) rfl (vis_by rfl)))) (a_cons (e_bin or_mul (e_var (i := 2) rfl (vis_by rfl)) (e_var (i := 4) rfl (vis_by rfl))) a_nil))) (g_p2 B.calm (g_nm B.nd rfl (loc_by rfl) (by first | exact .inr rfl | exact .inl rfl)) (g_nm B.nd rfl (loc_by rfl) (by first | exact .inr rfl | exact .inl rfl)) rfl rfl rfl rfl))
      ss_nil))
      (ss_cons (s_ret (e_tup (a_cons (e_var (i := 1) rfl (vis_by rfl)) (a_cons (e_var (i := 2) rfl (vis_by rfl)) a_nil))))
      ss_nil)))
set_option maxHeartbeats 4000000 in
theorem ok__law_is_fraction (h : HY K mg base) (n : Nat) : FnS P w K mg base (gs K) Emp 2 (Iv.A K "_law_is_fraction") (fdA K "_law_is_fraction" st__law_is_fraction) ["value"] n 27 :=
  fn_okC (fi := b__law_is_fraction) (F__law_is_fraction h) sc__law_is_fraction rfl rfl rfl (by decide) rfl fun clo cok hR n hn cdv A outer s H E hcd B live cb =>
    (ss_cons (s_ite (L2.PW.pt (w_or (t_not (t_val (e_isa (by rfl) (z_isinstance h) (e_var (i := 0) rfl (vis_by rfl)) (by rfl) (z_tuple h) (by decide +kernel)))) (w_or (t_cmp (or_ne (hu_of B)) (e_biF (cb_len) (by rfl) (z_len h) (by decide +kernel) (a_cons (e_var (i := 0) rfl (vis_by rfl)) a_nil)) e_int (by rfl)) (w_one_or (t_not (t_val (e_call B (Emp.live hR) (ok__law_is_whole h n) hR (by decide) (by rfl) (g__law_is_whole h) (F__law_is_whole h).kp (bi__law_is_whole h) (a_cons (e_sub (e_var (i := 0) rfl (vis_by rfl)) e_int (fun _ _ => rfl)) (a_cons e_int (a_cons (e_bin or_pow e_int e_int) a_nil))))))))))
      (ss_cons (s_ret e_bl)
      ss_nil)
      ss_nil)
      (ss_cons (s_ret (e_and (e_call B (Emp.live hR) (ok__law_is_whole h n) hR (by decide) (by rfl) (g__law_is_whole h) (F__law_is_whole h).kp (bi__law_is_whole h) (a_cons (e_sub (e_var (i := 0) rfl (vis_by rfl)) e_int (fun _ _ => rfl)) (a_cons (e_neg (e_bin or_pow e_int e_int)) (a_cons (e_bin or_pow e_int e_int) a_nil)))) (e_one (e_cmp (or_eq (hu_of B)) (e_call B (Emp.live hR) (ok__law_gcd h n) hR (by decide) (by rfl) (g__law_gcd h) (F__law_gcd h).kp (bi__law_gcd h) (a_cons (e_sub (e_var (i := 0) rfl (vis_by rfl)) e_int (fun _ _ => rfl)) (a_cons (e_sub (e_var (i := 0) rfl (vis_by rfl)) e_int (fun _ _ => rfl)) a_nil))) e_int (by rfl)))))
      ss_nil))
set_option maxHeartbeats 4000000 in
theorem ok__law_is_point (h : HY K mg base) (n : Nat) : FnS P w K mg base (gs K) Emp 3 (Iv.A K "_law_is_point") (fdA K "_law_is_point" st__law_is_point) ["value"] n 28 :=
  fn_okC (fi := b__law_is_point) (F__law_is_point h) sc__law_is_point rfl rfl rfl (by decide) rfl fun clo cok hR n hn cdv A outer s H E hcd B live cb =>
    (ss_cons (s_ret (e_and (e_isa (by rfl) (z_isinstance h) (e_var (i := 0) rfl (vis_by rfl)) (by rfl) (z_tuple h) (by decide +kernel)) (e_and (e_cmp (or_eq (hu_of B)) (e_biF (cb_len) (by rfl) (z_len h) (by decide +kernel) (a_cons (e_var (i := 0) rfl (vis_by rfl)) a_nil)) e_int (by rfl)) (e_one (e_cmp (or_eq (hu_of B)) (e_comp B (i_over (e_var (i := 0) rfl (vis_by rfl))) (blkOk_by (own := [("one", 1)]) rfl) (by decide) (fun s H C cl fp B => ⟨(g_nm B.nd rfl (loc_by rfl) (by first | exact .inr rfl | exact .inl rfl)), (c_some (t_not (t_val (e_call B (Emp.live hR) (ok__law_is_fraction h n) hR (by decide) (by rfl) (g__law_is_fraction h) (F__law_is_fraction h).kp (bi__law_is_fraction h) (a_cons (e_var (i := 1) rfl (vis_by rfl)) a_nil))))), (e_var (i := 1) rfl (vis_by rfl))⟩)) (e_lst a_nil) (by rfl))))))
      ss_nil)
set_option maxHeartbeats 4000000 in
theorem ok__law_cross (h : HY K mg base) (n : Nat) : FnS P w K mg base (gs K) Emp 4 (Iv.A K "_law_cross") (fdA K "_law_cross" st__law_cross) ["one", "other", "third"] n 29 :=
  fn_okC (fi := b__law_cross) (F__law_cross h) sc__law_cross rfl rfl rfl (by decide) rfl fun clo cok hR n hn cdv A outer s H E hcd B live cb =>
    (ss_cons (s_par2 B.calm B.nd (i := 3) (j := 4) rfl rfl (by decide) rfl rfl (a_cons (e_call B (Emp.live hR) (ok__law_sum h n) hR (by decide) (by rfl) (g__law_sum h) (F__law_sum h).kp (bi__law_sum h) (a_cons (e_lst (a_cons (e_sub (e_var (i := 1) rfl (vis_by rfl)) e_int (fun _ _ => rfl)) (a_cons (e_tup (a_cons (e_neg (e_sub (e_sub (e_var (i := 0) rfl (vis_by rfl)) e_int (fun _ _ => rfl)) e_int (fun _ _ => rfl))) (a_cons (e_sub (e_sub (e_var (i := 0) rfl (vis_by rfl)) e_int (fun _ _ => rfl)) e_int (fun _ _ => rfl)) a_nil))) a_nil))) a_nil)) (a_cons (e_call B (Emp.live hR) (ok__law_sum h n) hR (by decide) (by rfl) (g__law_sum h) (F__law_sum h).kp (bi__law_sum h) (a_cons (e_lst (a_cons (e_sub (e_var (i := 1) rfl (vis_by rfl)) e_int (fun _ _ => rfl)) (a_cons (e_tup (a_cons (e_neg (e_sub (e_sub (e_var (i := 0) rfl (vis_by rfl)) e_int (fun _ _ => rfl)) e_int (fun _ _ => rfl))) (a_cons (e_sub (e_sub (e_var (i := 0) rfl (vis_by rfl)) e_int (fun _ _ => rfl)) e_int (fun _ _ => rfl)) a_nil))) a_nil))) a_nil)) a_nil)) (by rfl))
      (ss_cons (s_par2 B.calm B.nd (i := 5) (j := 6) rfl rfl (by decide) rfl rfl (a_cons (e_call B (Emp.live hR) (ok__law_sum h n) hR (by decide) (by rfl) (g__law_sum h) (F__law_sum h).kp (bi__law_sum h) (a_cons (e_lst (a_cons (e_sub (e_var (i := 2) rfl (vis_by rfl)) e_int (fun _ _ => rfl)) (a_cons (e_tup (a_cons (e_neg (e_sub (e_sub (e_var (i := 0) rfl (vis_by rfl)) e_int (fun _ _ => rfl)) e_int (fun _ _ => rfl))) (a_cons (e_sub (e_sub (e_var (i := 0) rfl (vis_by rfl)) e_int (fun _ _ => rfl)) e_int (fun _ _ => rfl)) a_nil))) a_nil))) a_nil)) (a_cons (e_call B (Emp.live hR) (ok__law_sum h n) hR (by decide) (by rfl) (g__law_sum h) (F__law_sum h).kp (bi__law_sum h) (a_cons (e_lst (a_cons (e_sub (e_var (i := 2) rfl (vis_by rfl)) e_int (fun _ _ => rfl)) (a_cons (e_tup (a_cons (e_neg (e_sub (e_sub (e_var (i := 0) rfl (vis_by rfl)) e_int (fun _ _ => rfl)) e_int (fun _ _ => rfl))) (a_cons (e_sub (e_sub (e_var (i := 0) rfl (vis_by rfl)) e_int (fun _ _ => rfl)) e_int (fun _ _ => rfl)) a_nil))) a_nil))) a_nil)) a_nil)) (by rfl))
      (ss_cons (s_ret (e_call B (Emp.live hR) (ok__law_sum h n) hR (by decide) (by rfl) (g__law_sum h) (F__law_sum h).kp (bi__law_sum h) (a_cons (e_lst (a_cons (e_tup (a_cons (e_bin or_mul (e_sub (e_var (i := 3) rfl (vis_by rfl)) e_int (fun _ _ => rfl)) (e_sub (e_var (i := 6) rfl (vis_by rfl)) e_int (fun _ _ => rfl))) (a_cons (e_bin or_mul (e_sub (e_var (i := 3) rfl (vis_by rfl)) e_int (fun _ _ => rfl)) (e_sub (e_var (i := 6) rfl (vis_by rfl)) e_int (fun _ _ => rfl))) a_nil))) (a_cons (e_tup (a_cons (e_bin or_mul (e_neg (e_sub (e_var (i := 4) rfl (vis_by rfl)) e_int (fun _ _ => rfl))) (e_sub (e_var (i := 5) rfl (vis_by rfl)) e_int (fun _ _ => rfl))) (a_cons (e_bin or_mul (e_sub (e_var (i := 4) rfl (vis_by rfl)) e_int (fun _ _ => rfl)) (e_sub (e_var (i := 5) rfl (vis_by rfl)) e_int (fun _ _ => rfl))) a_nil))) a_nil))) a_nil)))
      ss_nil)))
set_option maxHeartbeats 4000000 in
theorem ok__law_size (h : HY K mg base) (n : Nat) : FnS P w K mg base (gs K) Emp 5 (Iv.A K "_law_size") (fdA K "_law_size" st__law_size) ["triangle_so"] n 30 :=
  fn_okC (fi := b__law_size) (F__law_size h) sc__law_size rfl rfl rfl (by decide) rfl fun clo cok hR n hn cdv A outer s H E hcd B live cb =>
    (ss_cons (s_asg (e_call B (Emp.live hR) (ok__law_cross h n) hR (by decide) (by rfl) (g__law_cross h) (F__law_cross h).kp (bi__law_cross h) (a_cons (e_sub (e_var (i := 0) rfl (vis_by rfl)) e_int (fun _ _ => rfl)) (a_cons (e_sub (e_var (i := 0) rfl (vis_by rfl)) e_int (fun _ _ => rfl)) (a_cons (e_sub (e_var (i := 0) rfl (vis_by rfl)) e_int (fun _ _ => rfl)) a_nil)))) (g_p2 B.calm (g_nm B.nd rfl (loc_by rfl) (by first | exact .inr rfl | exact .inl rfl)) (g_nm B.nd rfl (loc_by rfl) (by first | exact .inr rfl | exact .inl rfl)) rfl rfl rfl rfl))
      (ss_cons (s_ret (e_call B (Emp.live hR) (ok__law_low h n) hR (by decide) (by rfl) (g__law_low h) (F__law_low h).kp (bi__law_low h) (a_cons (e_biF (cb_abs) (by rfl) (z_abs h) (by decide +kernel) (a_cons (e_var (i := 1) rfl (vis_by rfl)) a_nil)) (a_cons (e_bin or_mul e_int (e_var (i := 2) rfl (vis_by rfl))) a_nil))))
      ss_nil))
set_option maxHeartbeats 4000000 in
theorem ok__law_is_triangle (h : HY K mg base) (n : Nat) : FnS P w K mg base (gs K) Emp 6 (Iv.A K "_law_is_triangle") (fdA K "_law_is_triangle" st__law_is_triangle) ["value"] n 31 :=
  fn_okC (fi := b__law_is_triangle) (F__law_is_triangle h) sc__law_is_triangle rfl rfl rfl (by decide) rfl fun clo cok hR n hn cdv A outer s H E hcd B live cb =>
    (ss_cons (s_ite (L2.PW.pt (w_or (t_not (t_val (e_isa (by rfl) (z_isinstance h) (e_var (i := 0) rfl (vis_by rfl)) (by rfl) (z_tuple h) (by decide +kernel)))) (w_or (t_cmp (or_ne (hu_of B)) (e_biF (cb_len) (by rfl) (z_len h) (by decide +kernel) (a_cons (e_var (i := 0) rfl (vis_by rfl)) a_nil)) e_int (by rfl)) (w_one_or (t_cmp (or_ne (hu_of B)) (e_comp B (i_over (e_var (i := 0) rfl (vis_by rfl))) (blkOk_by (own := [("one", 1)]) rfl) (by decide) (fun s H C cl fp B => ⟨(g_nm B.nd rfl (loc_by rfl) (by first | exact .inr rfl | exact .inl rfl)), (c_some (t_not (t_val (e_call B (Emp.live hR) (ok__law_is_point h n) hR (by decide) (by rfl) (g__law_is_point h) (F__law_is_point h).kp (bi__law_is_point h) (a_cons (e_var (i := 1) rfl (vis_by rfl)) a_nil))))), (e_var (i := 1) rfl (vis_by rfl))⟩)) (e_lst a_nil) (by rfl))))))
      (ss_cons (s_ret e_bl)
      ss_nil)
      ss_nil)
      (ss_cons (s_ret (e_and (e_cmp (or_eq (hu_of B)) (e_biT cb_list (by rfl) (z_list h) (by decide +kernel) (a_cons (e_var (i := 0) rfl (vis_by rfl)) a_nil)) (e_sortedSetT B (by rfl) (z_sorted h) (by rfl) (z_set h) (e_var (i := 0) rfl (vis_by rfl))) (by rfl)) (e_one (e_cmp (or_ne (hu_of B)) (e_call B (Emp.live hR) (ok__law_size h n) hR (by decide) (by rfl) (g__law_size h) (F__law_size h).kp (bi__law_size h) (a_cons (e_var (i := 0) rfl (vis_by rfl)) a_nil)) (e_tup (a_cons e_int (a_cons e_int a_nil))) (by rfl)))))
      ss_nil))
set_option maxHeartbeats 4000000 in
theorem ok__law_times (h : HY K mg base) (n : Nat) : FnS P w K mg base (gs K) Emp 1 (Iv.A K "_law_times") (fdA K "_law_times" st__law_times) ["prime", "fraction_so"] n 32 :=
  fn_okC (fi := b__law_times) (F__law_times h) sc__law_times rfl rfl rfl (by decide) rfl fun clo cok hR n hn cdv A outer s H E hcd B live cb =>
    (ss_cons (s_asg (e_tup (a_cons e_int (a_cons (e_var (i := 1) rfl (vis_by rfl)) a_nil))) (g_p2 B.calm (g_nm B.nd rfl (loc_by rfl) (by first | exact .inr rfl | exact .inl rfl)) (g_p2 B.calm (g_nm B.nd rfl (loc_by rfl) (by first | exact .inr rfl | exact .inl rfl)) (g_nm B.nd rfl (loc_by rfl) (by first | exact .inr rfl | exact .inl rfl)) rfl rfl rfl rfl) rfl rfl rfl rfl))
      (ss_cons (s_while B (t_cmp (or_eq (hu_of B)) (e_bin or_mod (e_var (i := 3) rfl (vis_by rfl)) (e_var (i := 0) rfl (vis_by rfl))) e_int (by rfl))
      (ss_cons (s_par2 B.calm B.nd (i := 3) (j := 2) rfl rfl (by decide) rfl rfl (a_cons (e_bin or_fdiv (e_var (i := 3) rfl (vis_by rfl)) (e_var (i := 0) rfl (vis_by rfl))) (a_cons (e_bin or_add (e_var (i := 2) rfl (vis_by rfl)) e_int) a_nil)) (by rfl))
      ss_nil))
      (ss_cons (s_while B (t_cmp (or_eq (hu_of B)) (e_bin or_mod (e_var (i := 4) rfl (vis_by rfl)) (e_var (i := 0) rfl (vis_by rfl))) e_int (by rfl))
      (ss_cons (s_par2 B.calm B.nd (i := 4) (j := 2) rfl rfl (by decide) rfl rfl (a_cons (e_bin or_fdiv (e_var (i := 4) rfl (vis_by rfl)) (e_var (i := 0) rfl (vis_by rfl))) (a_cons (e_bin or_sub (e_var (i := 2) rfl (vis_by rfl)) e_int) a_nil)) (by rfl))
      ss_nil))
      (ss_cons (s_ret (e_var (i := 2) rfl (vis_by rfl)))
      ss_nil))))
set_option maxHeartbeats 4000000 in
theorem ok__law_hue (h : HY K mg base) (n : Nat) : FnS P w K mg base (gs K) Emp 2 (Iv.A K "_law_hue") (fdA K "_law_hue" st__law_hue) ["prime", "point_so"] n 33 :=
  fn_okC (fi := b__law_hue) (F__law_hue h) sc__law_hue rfl rfl rfl (by decide) rfl fun clo cok hR n hn cdv A outer s H E hcd B live cb =>
    (ss_cons (by first | exact s_setLc B rfl rfl (by rfl) (i_over (e_var (i := 1) rfl (vis_by rfl))) (blkOk_by (own := [("part", 3)]) rfl) (by decide) (fun s H C cl fp B => ⟨(g_nm B.nd rfl (loc_by rfl) (by first | exact .inr rfl | exact .inl rfl)), c_none, (e_ite (t_cmp (or_eq (hu_of B)) (e_sub (e_var (i := 3) rfl (vis_by rfl)) e_int (fun _ _ => rfl)) e_int (by rfl)) (e_bin or_pow e_int e_int) (e_call B (Emp.live hR) (ok__law_times h n) hR (by decide) (by rfl) (g__law_times h) (F__law_times h).kp (bi__law_times h) (a_cons (e_var (i := 0) rfl (vis_by rfl)) (a_cons (e_var (i := 3) rfl (vis_by rfl)) a_nil))))⟩) | exact s_asg (e_comp B (i_over (e_var (i := 1) rfl (vis_by rfl))) (blkOk_by (own := [("part", 3)]) rfl) (by decide) (fun s H C cl fp B => ⟨(g_nm B.nd rfl (loc_by rfl) (by first | exact .inr rfl | exact .inl rfl)), c_none, (e_ite (t_cmp (or_eq (hu_of B)) (e_sub (e_var (i := 3) rfl (vis_by rfl)) e_int (fun _ _ => rfl)) e_int (by rfl)) (e_bin or_pow e_int e_int) (e_call B (Emp.live hR) (ok__law_times h n) hR (by decide) (by rfl) (g__law_times h) (F__law_times h).kp (bi__law_times h) (a_cons (e_var (i := 0) rfl (vis_by rfl)) (a_cons (e_var (i := 3) rfl (vis_by rfl)) a_nil))))⟩)) (g_nm B.nd rfl (loc_by rfl) (by first | exact .inr rfl | exact .inl rfl)))
      (ss_cons (s_ite (t_cmp (or_gt) (e_biF (cb_minL B.calm) (by rfl) (z_min h) (by decide +kernel) (a_cons (e_var (i := 2) rfl (vis_by rfl)) a_nil)) e_int (by rfl))
      (ss_cons (s_ret e_str)
      ss_nil)
      ss_nil)
      (ss_cons (s_ret (e_ite (t_cmp (or_le) (e_sub (e_var (i := 2) rfl (vis_by rfl)) e_int (fun _ _ => rfl)) (e_sub (e_var (i := 2) rfl (vis_by rfl)) e_int (fun _ _ => rfl)) (by rfl)) e_str e_str))
      ss_nil)))
set_option maxHeartbeats 4000000 in
theorem ok__law_known (h : HY K mg base) (n : Nat) : FnS P w K mg base (gs K) Emp 1 (Iv.A K "_law_known") (fdA K "_law_known" st__law_known) [] n 38 :=
  fn_okC (fi := b__law_known) (F__law_known h) sc__law_known rfl rfl rfl (by decide) rfl fun clo cok hR n hn cdv A outer s H E hcd B live cb =>
    (ss_cons (s_asg (e_tup (a_cons (e_tup (a_cons (e_tup (a_cons e_int (a_cons e_int a_nil))) (a_cons (e_tup (a_cons e_int (a_cons e_int a_nil))) a_nil))) (a_cons (e_tup (a_cons (e_tup (a_cons e_int (a_cons e_int a_nil))) (a_cons (e_tup (a_cons e_int (a_cons e_int a_nil))) a_nil))) (a_cons (e_tup (a_cons (e_tup (a_cons e_int (a_cons e_int a_nil))) (a_cons (e_tup (a_cons e_int (a_cons e_int a_nil))) a_nil))) (a_cons (e_tup (a_cons (e_tup (a_cons e_int (a_cons e_int a_nil))) (a_cons (e_tup (a_cons e_int (a_cons e_int a_nil))) a_nil))) a_nil))))) (g_p4 B.calm (g_nm B.nd rfl (loc_by rfl) (by first | exact .inr rfl | exact .inl rfl)) (g_nm B.nd rfl (loc_by rfl) (by first | exact .inr rfl | exact .inl rfl)) (g_nm B.nd rfl (loc_by rfl) (by first | exact .inr rfl | exact .inl rfl)) (g_nm B.nd rfl (loc_by rfl) (by first | exact .inr rfl | exact .inl rfl)) rfl rfl rfl rfl rfl rfl))
      (ss_cons (s_asg (e_tup (a_cons (e_tup (a_cons (e_tup (a_cons e_int (a_cons e_int a_nil))) (a_cons (e_tup (a_cons e_int (a_cons e_int a_nil))) a_nil))) (a_cons (e_tup (a_cons (e_tup (a_cons e_int (a_cons e_int a_nil))) (a_cons (e_tup (a_cons e_int (a_cons e_int a_nil))) a_nil))) a_nil))) (g_p2 B.calm (g_nm B.nd rfl (loc_by rfl) (by first | exact .inr rfl | exact .inl rfl)) (g_nm B.nd rfl (loc_by rfl) (by first | exact .inr rfl | exact .inl rfl)) rfl rfl rfl rfl))
      (ss_cons (s_ret (e_tup (a_cons (e_tup (a_cons (e_tup (a_cons (e_var (i := 0) rfl (vis_by rfl)) (a_cons (e_var (i := 1) rfl (vis_by rfl)) (a_cons (e_var (i := 2) rfl (vis_by rfl)) a_nil)))) (a_cons (e_tup (a_cons (e_var (i := 1) rfl (vis_by rfl)) (a_cons (e_var (i := 2) rfl (vis_by rfl)) (a_cons (e_var (i := 3) rfl (vis_by rfl)) a_nil)))) a_nil))) (a_cons (e_tup (a_cons (e_tup (a_cons (e_var (i := 0) rfl (vis_by rfl)) (a_cons (e_var (i := 1) rfl (vis_by rfl)) (a_cons (e_var (i := 4) rfl (vis_by rfl)) a_nil)))) (a_cons (e_tup (a_cons (e_var (i := 1) rfl (vis_by rfl)) (a_cons (e_var (i := 2) rfl (vis_by rfl)) (a_cons (e_var (i := 4) rfl (vis_by rfl)) a_nil)))) (a_cons (e_tup (a_cons (e_var (i := 1) rfl (vis_by rfl)) (a_cons (e_var (i := 2) rfl (vis_by rfl)) (a_cons (e_var (i := 5) rfl (vis_by rfl)) a_nil)))) a_nil)))) a_nil))))
      ss_nil)))
set_option maxHeartbeats 4000000 in
theorem ok__law_bad_primes (h : HY K mg base) (n : Nat) : FnS P w K mg base (gs K) Emp 1 (Iv.A K "_law_bad_primes") (fdA K "_law_bad_primes" st__law_bad_primes) [] n 39 :=
  fn_okC (fi := b__law_bad_primes) (F__law_bad_primes h) sc__law_bad_primes rfl rfl rfl (by decide) rfl fun clo cok hR n hn cdv A outer s H E hcd B live cb =>
    (ss_cons (s_ret (e_lst (a_cons e_non (a_cons e_int (a_cons e_int (a_cons e_int (a_cons (e_neg e_int) (a_cons e_int (a_cons e_bl (a_cons e_str (a_cons (e_tup (a_cons e_int a_nil)) (a_cons e_int a_nil))))))))))))
      ss_nil)
set_option maxHeartbeats 4000000 in
theorem ok__law_fraction (h : HY K mg base) (n : Nat) : FnS P w K mg base (gs K) Emp 3 (Iv.A K "_law_fraction") (fdA K "_law_fraction" st__law_fraction) ["vat"] n 40 :=
  fn_okC (fi := b__law_fraction_01) (F__law_fraction h) sc__law_fraction rfl rfl rfl (by decide) rfl fun clo cok hR n hn cdv A outer s H E hcd B live cb =>
    (ss_cons (s_asg (e_call B (Emp.live hR) (ok__law_some h n) hR (by decide) (by rfl) (g__law_some h) (F__law_some h).kp (bi__law_some h) (a_cons (e_var (i := 0) rfl (vis_by rfl)) (a_cons (e_lst (a_cons e_int (a_cons e_int (a_cons e_int (a_cons e_int (a_cons (e_bin or_pow e_int e_int) a_nil)))))) a_nil))) (g_nm B.nd rfl (loc_by rfl) (by first | exact .inr rfl | exact .inl rfl)))
      (ss_cons (s_ret (e_call B (Emp.live hR) (ok__law_low h n) hR (by decide) (by rfl) (g__law_low h) (F__law_low h).kp (bi__law_low h) (a_cons (e_bin or_sub (e_call B (Emp.live hR) (ok__law_under h n) hR (by decide) (by rfl) (g__law_under h) (F__law_under h).kp (bi__law_under h) (a_cons (e_var (i := 0) rfl (vis_by rfl)) (a_cons (e_bin or_add (e_bin or_mul e_int (e_var (i := 1) rfl (vis_by rfl))) e_int) a_nil))) (e_var (i := 1) rfl (vis_by rfl))) (a_cons (e_bin or_add e_int (e_call B (Emp.live hR) (ok__law_under h n) hR (by decide) (by rfl) (g__law_under h) (F__law_under h).kp (bi__law_under h) (a_cons (e_var (i := 0) rfl (vis_by rfl)) (a_cons (e_var (i := 1) rfl (vis_by rfl)) a_nil)))) a_nil))))
      ss_nil))
set_option maxHeartbeats 4000000 in
theorem ok__law_spoilt (h : HY K mg base) (n : Nat) : (∀ m, m < n → AV P w K mg base m) → FnS P w K mg base (gs K) Emp (lv n) (Iv.A K "_law_spoilt") (fdA K "_law_spoilt" st__law_spoilt) ["vat", "value"] n 34 := by
  induction n with
  | zero => exact fun V => fn_okC (fi := b__law_spoilt) (F__law_spoilt h) sc__law_spoilt rfl rfl rfl (by decide) rfl fun clo cok hR n hn => absurd hn (Nat.succ_ne_zero n)
  | succ nn ih0 =>
    exact fun V => fn_okC (fi := b__law_spoilt) (F__law_spoilt h) sc__law_spoilt rfl rfl rfl (by decide) rfl fun clo cok hR n hn cdv A outer s H E hcd B live cb => by
      obtain rfl : n = nn := Nat.succ.inj hn
      have ih := ih0 (fun m hm => V m (by omega))
      exact (ss_cons (s_ite (L2.PW.pt (w_and (t_val (e_isa (by rfl) (z_isinstance h) (e_var (i := 1) rfl (vis_by rfl)) (by rfl) (z_tuple h) (by decide +kernel))) (w_and (t_cmp (or_ne (hu_of B)) (e_var (i := 1) rfl (vis_by rfl)) (e_tup a_nil) (by rfl)) (w_one_and (t_cmp (or_gt) (e_call B (Emp.live hR) (ok__law_under h n) hR (by first | omega | (unfold lv; omega)) (by rfl) (g__law_under h) (F__law_under h).kp (bi__law_under h) (a_cons (e_var (i := 0) rfl (vis_by rfl)) (a_cons e_int a_nil))) e_int (by rfl))))))
      (ss_cons (s_asg (e_call B (Emp.live hR) (ok__law_under h n) hR (by first | omega | (unfold lv; omega)) (by rfl) (g__law_under h) (F__law_under h).kp (bi__law_under h) (a_cons (e_var (i := 0) rfl (vis_by rfl)) (a_cons (e_biF (cb_len) (by rfl) (z_len h) (by decide +kernel) (a_cons (e_var (i := 1) rfl (vis_by rfl)) a_nil)) a_nil))) (g_nm B.nd rfl (loc_by rfl) (by first | exact .inr rfl | exact .inl rfl)))
      (ss_cons (s_ret (e_bin or_add (e_bin or_add (e_slice (e_var (i := 1) rfl (vis_by rfl)) o_none (o_some (e_var (i := 2) rfl (vis_by rfl)))) (e_tup (a_cons (e_call B (Emp.live hR) ih hR (by unfold lv; omega) (by rfl) (g__law_spoilt h) (F__law_spoilt h).kp (bi__law_spoilt h) (a_cons (e_var (i := 0) rfl (vis_by rfl)) (a_cons (e_sub (e_var (i := 1) rfl (vis_by rfl)) (e_var (i := 2) rfl (vis_by rfl)) (fun _ _ => rfl)) a_nil))) a_nil))) (e_slice (e_var (i := 1) rfl (vis_by rfl)) (o_some (e_bin or_add (e_var (i := 2) rfl (vis_by rfl)) e_int)) o_none)))
      ss_nil))
      ss_nil)
      (ss_cons (s_asg (e_call B (Emp.live hR) (ok__law_under h n) hR (by first | omega | (unfold lv; omega)) (by rfl) (g__law_under h) (F__law_under h).kp (bi__law_under h) (a_cons (e_var (i := 0) rfl (vis_by rfl)) (a_cons e_int a_nil))) (g_nm B.nd rfl (loc_by rfl) (by first | exact .inr rfl | exact .inl rfl)))
      (ss_cons (s_ite (t_val (e_isa (by rfl) (z_isinstance h) (e_var (i := 1) rfl (vis_by rfl)) (by rfl) (z_tuple h) (by decide +kernel)))
      (ss_cons (s_ret (e_sub (e_lst (a_cons (e_biT cb_list (by rfl) (z_list h) (by decide +kernel) (a_cons (e_var (i := 1) rfl (vis_by rfl)) a_nil)) (a_cons (e_slice (e_var (i := 1) rfl (vis_by rfl)) (o_some e_int) o_none) (a_cons (e_bin or_add (e_var (i := 1) rfl (vis_by rfl)) (e_slice (e_var (i := 1) rfl (vis_by rfl)) (o_some (e_neg e_int)) o_none)) (a_cons (e_rev (e_var (i := 1) rfl (vis_by rfl))) (a_cons e_non (a_cons (e_tup (a_cons (e_var (i := 1) rfl (vis_by rfl)) (a_cons (e_var (i := 1) rfl (vis_by rfl)) a_nil))) a_nil))))))) (e_var (i := 3) rfl (vis_by rfl)) (fun _ _ => rfl)))
      ss_nil)
      ss_nil)
      (ss_cons (s_ite (t_val (e_isa (by rfl) (z_isinstance h) (e_var (i := 1) rfl (vis_by rfl)) (by rfl) (z_int h) (by decide +kernel)))
      (ss_cons (s_ret (e_sub (e_lst (a_cons (e_bin or_add (e_var (i := 1) rfl (vis_by rfl)) e_int) (a_cons (e_bin or_sub (e_var (i := 1) rfl (vis_by rfl)) e_int) (a_cons (e_bin or_mul e_int (e_var (i := 1) rfl (vis_by rfl))) (a_cons e_bl (a_cons e_non (a_cons (e_biT cb_str (by rfl) (z_str h) (by decide +kernel) (a_cons (e_var (i := 1) rfl (vis_by rfl)) a_nil)) a_nil))))))) (e_var (i := 3) rfl (vis_by rfl)) (fun _ _ => rfl)))
      ss_nil)
      ss_nil)
      (ss_cons (s_ret e_non)
      ss_nil)))))
set_option maxHeartbeats 4000000 in
theorem ok__law_error (h : HY K mg base) (n : Nat) (V : ∀ m, m < n → AV P w K mg base m) : FnS P w K mg base (gs K) (fun _ => True) (lv n) (Iv.A K "_law_error") (fdA K "_law_error" st__law_error) ["call"] n 36 :=
  fn_okC (fi := b__law_error) (F__law_error h) sc__law_error rfl rfl rfl (by decide) rfl fun clo cok hR n hn cdv A outer s H E hcd B live cb => by
    subst hn
    exact (ss_cons (s_tryE (i := 1) (cv := .ref (Iv.A K "OddError")) B live rfl rfl rfl rfl ⟨by rfl, by decide, .inl (g_OddError h)⟩ (fun c => exm_ok h c) (fun W' pn xe B live => (s_expr (e_callv0 B live (V n (by omega)).1 (by unfold lv; omega) (i := 0) rfl (vis_by rfl) (VF := (V n (by omega)).2)))) (fun c a oe d pn hz hf xd => (su_plain (pe_names (i := 1) (names_ok h) (B.room.mono (by omega)) hz hf xd (by rfl) (g__law_names h) (F__law_names h).kp (bi__law_names h) rfl (vis_by rfl)))))
      (ss_cons (s_ret e_str)
      ss_nil))
set_option maxHeartbeats 4000000 in
theorem ok__law_all_refused (h : HY K mg base) (n : Nat) (V : ∀ m, m < n → AV P w K mg base m) : FnS P w K mg base (gs K) (fun _ => True) (lv n) (Iv.A K "_law_all_refused") (fdA K "_law_all_refused" st__law_all_refused) ["call", "odds", "name"] n 37 :=
  fn_okC (fi := b__law_all_refused) (F__law_all_refused h) sc__law_all_refused rfl rfl rfl (by decide) rfl fun clo cok hR n hn cdv A outer s H E hcd B live cb => by
    subst hn
    exact (ss_cons (s_ret (e_cmp (or_eq (hu_of B)) (e_compL B live cb (i_over (e_var (i := 1) rfl (vis_by rfl))) (blkOk_by (own := [("odd", 3)]) rfl) (by decide) (fun s H C cl fp B live cb => ⟨(g_nm B.nd rfl (loc_by rfl) (by first | exact .inr rfl | exact .inl rfl)), (c_some (t_cmp (or_ne (hu_of B)) (e_callC (is := [0, 3]) (caps := ["call", "odd"]) B live cb (ok__law_error h n (fun m hm => V m (by omega))) (fun _ _ => trivial) (by unfold lv; omega) (by rfl) (g__law_error h) (F__law_error h).kp (bi__law_error h) (tb__law_all_refused h) (hcd.trans (cd__law_all_refused h)) (mT__law_all_refused K) (hu__law_all_refused h) (by rfl) (by rfl) (.cons (by rfl) (cof_by (by rfl)) (by rfl) (.cons (by rfl) (cof_by (by rfl)) (by rfl) .nil)) (hall_by (by rfl)) a_nil) (e_var (i := 2) rfl (vis_by rfl)) (by rfl))), (e_var (i := 3) rfl (vis_by rfl))⟩)) (e_lst a_nil) (by rfl)))
      ss_nil)
set_option maxHeartbeats 4000000 in
theorem ok__law_refused (h : HY K mg base) (n : Nat) (V : ∀ m, m < n → AV P w K mg base m) : FnS P w K mg base (gs K) Emp (lv n) (Iv.A K "_law_refused") (fdA K "_law_refused" st__law_refused) [] n 41 :=
  fn_okC (fi := b__law_refused_01) (F__law_refused h) sc__law_refused rfl rfl rfl (by decide) rfl fun clo cok hR n hn cdv A outer s H E hcd B live cb => by
    subst hn
    exact (ss_cons (s_for B (i_over (e_tup (a_cons (e_glob (v := L2.V.ref (Iv.A K "stands")) (by rfl) (g_stands h) rfl (fun _ _ _ => .fn (by rfl))) (a_cons (e_glob (v := L2.V.ref (Iv.A K "hue")) (by rfl) (g_hue h) rfl (fun _ _ _ => .fn (by rfl))) a_nil)))) (g_nm B.nd rfl (loc_by rfl) (by first | exact .inr rfl | exact .inl rfl))
      (ss_cons (s_ite (t_not (t_val (e_callC (is := [0]) (caps := ["call"]) B (Emp.live hR) cb (ok__law_all_refused h n (fun m hm => V m (by omega))) (fun _ _ => trivial) (by unfold lv; omega) (by rfl) (g__law_all_refused h) (F__law_all_refused h).kp (bi__law_all_refused h) (tb__law_refused h) (hcd.trans (cd__law_refused h)) (mT__law_refused K) (hu__law_refused h) (by rfl) (by rfl) (.cons (by rfl) (cof_by (by rfl)) (by rfl) .nil) (hall_by (by rfl)) (a_cons (e_call0 B (Emp.live hR) (ok__law_bad_primes h n) hR (by first | omega | (unfold lv; omega)) (by rfl) (g__law_bad_primes h) (F__law_bad_primes h).kp (bi__law_bad_primes h)) (a_cons e_str a_nil)))))
      (ss_cons (s_ret e_bl)
      ss_nil)
      ss_nil)
      ss_nil))
      (ss_cons (s_asg (e_lst (a_cons e_non (a_cons (e_tup (a_cons e_int (a_cons e_int a_nil))) (a_cons (e_tup (a_cons e_int (a_cons e_int a_nil))) (a_cons (e_lst (a_cons e_int (a_cons e_int a_nil))) (a_cons (e_tup (a_cons e_int a_nil)) (a_cons (e_tup (a_cons (e_bin or_add (e_bin or_pow e_int e_int) e_int) (a_cons e_int a_nil))) (a_cons (e_tup (a_cons e_int (a_cons (e_bin or_add (e_bin or_pow e_int e_int) e_int) a_nil))) (a_cons (e_tup (a_cons e_bl (a_cons e_int a_nil))) (a_cons (e_tup (a_cons e_int (a_cons e_int a_nil))) (a_cons e_int (a_cons e_str (a_cons (e_tup (a_cons e_int (a_cons (e_neg e_int) a_nil))) a_nil))))))))))))) (g_nm B.nd rfl (loc_by rfl) (by first | exact .inr rfl | exact .inl rfl)))
      (ss_cons (s_ite (t_not (t_val (e_callC (is := []) (caps := []) B (Emp.live hR) cb (ok__law_all_refused h n (fun m hm => V m (by omega))) (fun _ _ => trivial) (by unfold lv; omega) (by rfl) (g__law_all_refused h) (F__law_all_refused h).kp (bi__law_all_refused h) (tb__law_refused h) (hcd.trans (cd__law_refused h)) (mT__law_refused K) (hu__law_refused h) (by rfl) (by rfl) .nil (hall_by (by rfl)) (a_cons (e_var (i := 1) rfl (vis_by rfl)) (a_cons e_str a_nil)))))
      (ss_cons (s_ret e_bl)
      ss_nil)
      ss_nil)
      (ss_cons (s_asg (e_lst (a_cons e_non (a_cons (e_tup (a_cons (e_tup (a_cons e_int (a_cons e_int a_nil))) a_nil)) (a_cons (e_tup (a_cons (e_tup (a_cons e_int (a_cons e_int a_nil))) (a_cons (e_tup (a_cons e_int (a_cons e_int a_nil))) a_nil))) (a_cons (e_lst (a_cons (e_tup (a_cons e_int (a_cons e_int a_nil))) (a_cons (e_tup (a_cons e_int (a_cons e_int a_nil))) a_nil))) (a_cons (e_tup (a_cons (e_tup (a_cons e_int (a_cons e_int a_nil))) (a_cons (e_tup (a_cons e_int (a_cons e_int a_nil))) (a_cons (e_tup (a_cons e_int (a_cons e_int a_nil))) a_nil)))) (a_cons (e_tup (a_cons e_int (a_cons e_int a_nil))) (a_cons (e_tup (a_cons (e_tup (a_cons e_int (a_cons e_int a_nil))) (a_cons e_non a_nil))) a_nil)))))))) (g_nm B.nd rfl (loc_by rfl) (by first | exact .inr rfl | exact .inl rfl)))
      (ss_cons (s_ite (t_not (t_val (e_callC (is := []) (caps := []) B (Emp.live hR) cb (ok__law_all_refused h n (fun m hm => V m (by omega))) (fun _ _ => trivial) (by unfold lv; omega) (by rfl) (g__law_all_refused h) (F__law_all_refused h).kp (bi__law_all_refused h) (tb__law_refused h) (hcd.trans (cd__law_refused h)) (mT__law_refused K) (hu__law_refused h) (by rfl) (by rfl) .nil (hall_by (by rfl)) (a_cons (e_var (i := 2) rfl (vis_by rfl)) (a_cons e_str a_nil)))))
      (ss_cons (s_ret e_bl)
      ss_nil)
      ss_nil)
      (ss_cons (s_asg (e_call0 B (Emp.live hR) (ok__law_known h n) hR (by first | omega | (unfold lv; omega)) (by rfl) (g__law_known h) (F__law_known h).kp (bi__law_known h)) (g_p2 B.calm (g_nm B.nd rfl (loc_by rfl) (by first | exact .inr rfl | exact .inl rfl)) (g_nm B.nd rfl (loc_by rfl) (by first | exact .inr rfl | exact .inl rfl)) rfl rfl rfl rfl))
      (ss_cons (s_asg (e_lst (a_cons e_non (a_cons (e_rev (e_sub (e_var (i := 3) rfl (vis_by rfl)) e_int (fun _ _ => rfl))) (a_cons (e_slice (e_sub (e_var (i := 3) rfl (vis_by rfl)) e_int (fun _ _ => rfl)) o_none (o_some e_int)) (a_cons (e_biT cb_list (by rfl) (z_list h) (by decide +kernel) (a_cons (e_sub (e_var (i := 3) rfl (vis_by rfl)) e_int (fun _ _ => rfl)) a_nil)) (a_cons (e_bin or_mul (e_tup (a_cons (e_sub (e_sub (e_var (i := 3) rfl (vis_by rfl)) e_int (fun _ _ => rfl)) e_int (fun _ _ => rfl)) a_nil)) e_int) (a_cons (e_var (i := 3) rfl (vis_by rfl)) (a_cons (e_bin or_add (e_sub (e_var (i := 3) rfl (vis_by rfl)) e_int (fun _ _ => rfl)) (e_slice (e_sub (e_var (i := 3) rfl (vis_by rfl)) e_int (fun _ _ => rfl)) o_none (o_some e_int))) (a_cons e_int a_nil))))))))) (g_nm B.nd rfl (loc_by rfl) (by first | exact .inr rfl | exact .inl rfl)))
      (ss_cons (s_ret (e_call B (Emp.live hR) (ok__law_all_refused h n (fun m hm => V m (by omega))) trivial (by unfold lv; omega) (by rfl) (g__law_all_refused h) (F__law_all_refused h).kp (bi__law_all_refused h) (a_cons (e_glob (v := L2.V.ref (Iv.A K "size")) (by rfl) (g_size h) rfl (fun _ _ _ => .fn (by rfl))) (a_cons (e_var (i := 5) rfl (vis_by rfl)) (a_cons e_str a_nil)))))
      ss_nil))))))))
set_option maxHeartbeats 4000000 in
theorem ok_law (h : HY K mg base) (n : Nat) (V : ∀ m, m < n → AV P w K mg base m) : FnS P w K mg base (gs K) Emp (lv n) (Iv.A K "law") (fdA K "law" st_law) ["script"] n 42 :=
  fn_okC (fi := b_law_01) (F_law h) sc_law rfl rfl rfl (by decide) rfl fun clo cok hR n hn cdv A outer s H E hcd B live cb => by
    subst hn
    exact (ss_cons (s_for B (i_range1 (by rfl) (z_range h) (e_biF (cb_max2 B.calm) (by rfl) (z_max h) (by decide +kernel) (a_cons e_int (a_cons (e_biF (cb_min2 B.calm) (by rfl) (z_min h) (by decide +kernel) (a_cons e_int (a_cons (e_biF (cb_len) (by rfl) (z_len h) (by decide +kernel) (a_cons (e_var (i := 0) rfl (vis_by rfl)) a_nil)) a_nil))) a_nil)))) (g_nm B.nd rfl (loc_by rfl) (by first | exact .inr rfl | exact .inl rfl))
      (ss_cons (s_asg (e_call B (Emp.live hR) (ok__law_vat h n) hR (by first | omega | (unfold lv; omega)) (by rfl) (g__law_vat h) (F__law_vat h).kp (bi__law_vat h) (a_cons (e_var (i := 0) rfl (vis_by rfl)) (a_cons (e_var (i := 1) rfl (vis_by rfl)) a_nil))) (g_nm B.nd rfl (loc_by rfl) (by first | exact .inr rfl | exact .inl rfl)))
      (ss_cons (s_for B (i_range1 (by rfl) (z_range h) e_int) (g_nm B.nd rfl (loc_by rfl) (by first | exact .inr rfl | exact .inl rfl))
      (ss_cons (s_par2 B.calm B.nd (i := 4) (j := 5) rfl rfl (by decide) rfl rfl (a_cons (e_call B (Emp.live hR) (ok__law_some h n) hR (by first | omega | (unfold lv; omega)) (by rfl) (g__law_some h) (F__law_some h).kp (bi__law_some h) (a_cons (e_var (i := 2) rfl (vis_by rfl)) (a_cons (e_lst (a_cons e_int (a_cons e_int (a_cons e_int (a_cons e_int (a_cons e_int (a_cons e_int (a_cons e_int a_nil)))))))) a_nil))) (a_cons (e_call B (Emp.live hR) (ok__law_fraction h n) hR (by first | omega | (unfold lv; omega)) (by rfl) (g__law_fraction h) (F__law_fraction h).kp (bi__law_fraction h) (a_cons (e_var (i := 2) rfl (vis_by rfl)) a_nil)) a_nil)) (by rfl))
      (ss_cons (s_ite (t_cmp (or_ne (hu_of B)) (e_call B (Emp.live hR) (ok_stands h n) hR (by first | omega | (unfold lv; omega)) (by rfl) (g_stands h) (F_stands h).kp (bi_stands h) (a_cons (e_var (i := 4) rfl (vis_by rfl)) (a_cons (e_var (i := 5) rfl (vis_by rfl)) a_nil))) (e_ite (t_cmp (or_eq (hu_of B)) (e_sub (e_var (i := 5) rfl (vis_by rfl)) e_int (fun _ _ => rfl)) e_int (by rfl)) e_non (e_call B (Emp.live hR) (ok__law_times h n) hR (by first | omega | (unfold lv; omega)) (by rfl) (g__law_times h) (F__law_times h).kp (bi__law_times h) (a_cons (e_var (i := 4) rfl (vis_by rfl)) (a_cons (e_var (i := 5) rfl (vis_by rfl)) a_nil)))) (by rfl))
      (ss_cons (s_ret e_bl)
      ss_nil)
      ss_nil)
      (ss_cons (s_asg (e_tup (a_cons (e_call B (Emp.live hR) (ok__law_fraction h n) hR (by first | omega | (unfold lv; omega)) (by rfl) (g__law_fraction h) (F__law_fraction h).kp (bi__law_fraction h) (a_cons (e_var (i := 2) rfl (vis_by rfl)) a_nil)) (a_cons (e_call B (Emp.live hR) (ok__law_some h n) hR (by first | omega | (unfold lv; omega)) (by rfl) (g__law_some h) (F__law_some h).kp (bi__law_some h) (a_cons (e_var (i := 2) rfl (vis_by rfl)) (a_cons (e_lst (a_cons (e_var (i := 5) rfl (vis_by rfl)) (a_cons (e_tup (a_cons e_int (a_cons e_int a_nil))) (a_cons (e_tup (a_cons e_int (a_cons e_int a_nil))) (a_cons (e_call B (Emp.live hR) (ok__law_fraction h n) hR (by first | omega | (unfold lv; omega)) (by rfl) (g__law_fraction h) (F__law_fraction h).kp (bi__law_fraction h) (a_cons (e_var (i := 2) rfl (vis_by rfl)) a_nil)) a_nil))))) a_nil))) a_nil))) (g_nm B.nd rfl (loc_by rfl) (by first | exact .inr rfl | exact .inl rfl)))
      (ss_cons (s_ite (t_cmp (or_ne (hu_of B)) (e_call B (Emp.live hR) (ok_hue h n) hR (by first | omega | (unfold lv; omega)) (by rfl) (g_hue h) (F_hue h).kp (bi_hue h) (a_cons (e_var (i := 4) rfl (vis_by rfl)) (a_cons (e_var (i := 6) rfl (vis_by rfl)) a_nil))) (e_call B (Emp.live hR) (ok__law_hue h n) hR (by first | omega | (unfold lv; omega)) (by rfl) (g__law_hue h) (F__law_hue h).kp (bi__law_hue h) (a_cons (e_var (i := 4) rfl (vis_by rfl)) (a_cons (e_var (i := 6) rfl (vis_by rfl)) a_nil))) (by rfl))
      (ss_cons (s_ret e_bl)
      ss_nil)
      ss_nil)
      (ss_cons (s_asg (e_biT cb_tuple (by rfl) (z_tuple h) (by decide +kernel) (a_cons (e_biF (cb_sorted (hu2_of B)) (by rfl) (z_sorted h) (by decide +kernel) (a_cons (e_comp B (i_range1 (by rfl) (z_range h) e_int) (blkOk_by (own := [("corner", 15)]) rfl) (by decide) (fun s H C cl fp B => ⟨(g_nm B.nd rfl (loc_by rfl) (by first | exact .inr rfl | exact .inl rfl)), c_none, (e_tup (a_cons (e_call B (Emp.live hR) (ok__law_fraction h n) hR (by first | omega | (unfold lv; omega)) (by rfl) (g__law_fraction h) (F__law_fraction h).kp (bi__law_fraction h) (a_cons (e_var (i := 2) rfl (vis_by rfl)) a_nil)) (a_cons (e_call B (Emp.live hR) (ok__law_fraction h n) hR (by first | omega | (unfold lv; omega)) (by rfl) (g__law_fraction h) (F__law_fraction h).kp (bi__law_fraction h) (a_cons (e_var (i := 2) rfl (vis_by rfl)) a_nil)) a_nil)))⟩)) a_nil)) a_nil)) (g_nm B.nd rfl (loc_by rfl) (by first | exact .inr rfl | exact .inl rfl)))
      (ss_cons (s_ite (L2.PW.pt (w_and (t_val (e_call B (Emp.live hR) (ok__law_is_triangle h n) hR (by first | omega | (unfold lv; omega)) (by rfl) (g__law_is_triangle h) (F__law_is_triangle h).kp (bi__law_is_triangle h) (a_cons (e_var (i := 7) rfl (vis_by rfl)) a_nil))) (w_one_and (t_cmp (or_ne (hu_of B)) (e_call B (Emp.live hR) (ok_size h n) hR (by first | omega | (unfold lv; omega)) (by rfl) (g_size h) (F_size h).kp (bi_size h) (a_cons (e_var (i := 7) rfl (vis_by rfl)) a_nil)) (e_call B (Emp.live hR) (ok__law_size h n) hR (by first | omega | (unfold lv; omega)) (by rfl) (g__law_size h) (F__law_size h).kp (bi__law_size h) (a_cons (e_var (i := 7) rfl (vis_by rfl)) a_nil)) (by rfl)))))
      (ss_cons (s_ret e_bl)
      ss_nil)
      ss_nil)
      (ss_cons (s_for B (i_range1 (by rfl) (z_range h) e_int) (g_nm B.nd rfl (loc_by rfl) (by first | exact .inr rfl | exact .inl rfl))
      (ss_cons (s_ite (t_not (t_val (e_call B (Emp.live hR) (ok__law_truly h n) hR (by first | omega | (unfold lv; omega)) (by rfl) (g__law_truly h) (F__law_truly h).kp (bi__law_truly h) (a_cons (e_call B (Emp.live hR) (ok_is_triangle h n) hR (by first | omega | (unfold lv; omega)) (by rfl) (g_is_triangle h) (F_is_triangle h).kp (bi_is_triangle h) (a_cons (e_var (i := 7) rfl (vis_by rfl)) a_nil)) (a_cons (e_call B (Emp.live hR) (ok__law_is_triangle h n) hR (by first | omega | (unfold lv; omega)) (by rfl) (g__law_is_triangle h) (F__law_is_triangle h).kp (bi__law_is_triangle h) (a_cons (e_var (i := 7) rfl (vis_by rfl)) a_nil)) a_nil)))))
      (ss_cons (s_ret e_bl)
      ss_nil)
      ss_nil)
      (ss_cons (s_asg (e_call B (Emp.live hR) (ok__law_spoilt h n (fun m hm => V m (by omega))) hR (by unfold lv; omega) (by rfl) (g__law_spoilt h) (F__law_spoilt h).kp (bi__law_spoilt h) (a_cons (e_var (i := 2) rfl (vis_by rfl)) (a_cons (e_var (i := 7) rfl (vis_by rfl)) a_nil))) (g_nm B.nd rfl (loc_by rfl) (by first | exact .inr rfl | exact .inl rfl)))
      ss_nil)))
      ss_nil))))))))
      ss_nil)))
      (ss_cons (s_asg (e_call0 B (Emp.live hR) (ok__law_known h n) hR (by first | omega | (unfold lv; omega)) (by rfl) (g__law_known h) (F__law_known h).kp (bi__law_known h)) (g_p2 B.calm (g_nm B.nd rfl (loc_by rfl) (by first | exact .inr rfl | exact .inl rfl)) (g_nm B.nd rfl (loc_by rfl) (by first | exact .inr rfl | exact .inl rfl)) rfl rfl rfl rfl))
      (ss_cons (s_ite (t_cmp (or_ne (hu_of B)) (e_lst (a_cons (e_call B (Emp.live hR) (ok_stands h n) hR (by first | omega | (unfold lv; omega)) (by rfl) (g_stands h) (F_stands h).kp (bi_stands h) (a_cons e_int (a_cons (e_tup (a_cons e_int (a_cons e_int a_nil))) a_nil))) (a_cons (e_call B (Emp.live hR) (ok_stands h n) hR (by first | omega | (unfold lv; omega)) (by rfl) (g_stands h) (F_stands h).kp (bi_stands h) (a_cons e_int (a_cons (e_tup (a_cons e_int (a_cons e_int a_nil))) a_nil))) (a_cons (e_call B (Emp.live hR) (ok_stands h n) hR (by first | omega | (unfold lv; omega)) (by rfl) (g_stands h) (F_stands h).kp (bi_stands h) (a_cons e_int (a_cons (e_tup (a_cons e_int (a_cons e_int a_nil))) a_nil))) (a_cons (e_call B (Emp.live hR) (ok_stands h n) hR (by first | omega | (unfold lv; omega)) (by rfl) (g_stands h) (F_stands h).kp (bi_stands h) (a_cons e_int (a_cons (e_tup (a_cons e_int (a_cons e_int a_nil))) a_nil))) (a_cons (e_call B (Emp.live hR) (ok_stands h n) hR (by first | omega | (unfold lv; omega)) (by rfl) (g_stands h) (F_stands h).kp (bi_stands h) (a_cons e_int (a_cons (e_tup (a_cons (e_neg e_int) (a_cons e_int a_nil))) a_nil))) a_nil)))))) (e_lst (a_cons (e_neg e_int) (a_cons e_int (a_cons (e_neg e_int) (a_cons e_non (a_cons e_int a_nil)))))) (by rfl))
      (ss_cons (s_ret e_bl)
      ss_nil)
      ss_nil)
      (ss_cons (s_asg (e_tup (a_cons (e_tup (a_cons e_int (a_cons e_int a_nil))) (a_cons (e_tup (a_cons e_int (a_cons e_int a_nil))) (a_cons (e_tup (a_cons e_int (a_cons e_int a_nil))) a_nil)))) (g_p3 B.calm (g_nm B.nd rfl (loc_by rfl) (by first | exact .inr rfl | exact .inl rfl)) (g_nm B.nd rfl (loc_by rfl) (by first | exact .inr rfl | exact .inl rfl)) (g_nm B.nd rfl (loc_by rfl) (by first | exact .inr rfl | exact .inl rfl)) rfl rfl rfl rfl rfl))
      (ss_cons (s_asg (e_lst (a_cons (e_tup (a_cons (e_var (i := 11) rfl (vis_by rfl)) (a_cons (e_var (i := 12) rfl (vis_by rfl)) a_nil))) (a_cons (e_tup (a_cons (e_var (i := 12) rfl (vis_by rfl)) (a_cons (e_var (i := 12) rfl (vis_by rfl)) a_nil))) (a_cons (e_tup (a_cons (e_var (i := 12) rfl (vis_by rfl)) (a_cons (e_var (i := 13) rfl (vis_by rfl)) a_nil))) (a_cons (e_tup (a_cons (e_var (i := 13) rfl (vis_by rfl)) (a_cons (e_var (i := 13) rfl (vis_by rfl)) a_nil))) (a_cons (e_tup (a_cons (e_tup (a_cons e_int (a_cons e_int a_nil))) (a_cons (e_tup (a_cons e_int (a_cons e_int a_nil))) a_nil))) (a_cons (e_tup (a_cons (e_var (i := 11) rfl (vis_by rfl)) (a_cons (e_tup (a_cons e_int (a_cons e_int a_nil))) a_nil))) (a_cons (e_tup (a_cons (e_tup (a_cons e_int (a_cons e_int a_nil))) (a_cons (e_tup (a_cons e_int (a_cons e_int a_nil))) a_nil))) a_nil)))))))) (g_nm B.nd rfl (loc_by rfl) (by first | exact .inr rfl | exact .inl rfl)))
      (ss_cons (s_ite (t_cmp (or_ne (hu_of B)) (e_comp B (i_over (e_var (i := 14) rfl (vis_by rfl))) (blkOk_by (own := [("spot", 6)]) rfl) (by decide) (fun s H C cl fp B => ⟨(g_nm B.nd rfl (loc_by rfl) (by first | exact .inr rfl | exact .inl rfl)), c_none, (e_call B (Emp.live hR) (ok_hue h n) hR (by first | omega | (unfold lv; omega)) (by rfl) (g_hue h) (F_hue h).kp (bi_hue h) (a_cons e_int (a_cons (e_var (i := 6) rfl (vis_by rfl)) a_nil)))⟩)) (e_lst (a_cons e_str (a_cons e_str (a_cons e_str (a_cons e_str (a_cons e_str (a_cons e_str (a_cons e_str a_nil)))))))) (by rfl))
      (ss_cons (s_ret e_bl)
      ss_nil)
      ss_nil)
      (ss_cons (s_ite (t_cmp (or_ne (hu_of B)) (e_lst (a_cons (e_call B (Emp.live hR) (ok_is_triangle h n) hR (by first | omega | (unfold lv; omega)) (by rfl) (g_is_triangle h) (F_is_triangle h).kp (bi_is_triangle h) (a_cons (e_sub (e_var (i := 9) rfl (vis_by rfl)) e_int (fun _ _ => rfl)) a_nil)) (a_cons (e_call B (Emp.live hR) (ok_is_triangle h n) hR (by first | omega | (unfold lv; omega)) (by rfl) (g_is_triangle h) (F_is_triangle h).kp (bi_is_triangle h) (a_cons (e_rev (e_sub (e_var (i := 9) rfl (vis_by rfl)) e_int (fun _ _ => rfl))) a_nil)) (a_cons (e_call B (Emp.live hR) (ok_is_triangle h n) hR (by first | omega | (unfold lv; omega)) (by rfl) (g_is_triangle h) (F_is_triangle h).kp (bi_is_triangle h) (a_cons (e_tup (a_cons (e_tup (a_cons (e_var (i := 12) rfl (vis_by rfl)) (a_cons (e_var (i := 12) rfl (vis_by rfl)) a_nil))) (a_cons (e_tup (a_cons (e_var (i := 11) rfl (vis_by rfl)) (a_cons (e_var (i := 11) rfl (vis_by rfl)) a_nil))) (a_cons (e_tup (a_cons (e_var (i := 13) rfl (vis_by rfl)) (a_cons (e_var (i := 13) rfl (vis_by rfl)) a_nil))) a_nil)))) a_nil)) a_nil)))) (e_lst (a_cons e_bl (a_cons e_bl (a_cons e_bl a_nil)))) (by rfl))
      (ss_cons (s_ret e_bl)
      ss_nil)
      ss_nil)
      (ss_cons (s_ret (e_and (e_cmp (or_eq (hu_of B)) (e_call B (Emp.live hR) (ok_size h n) hR (by first | omega | (unfold lv; omega)) (by rfl) (g_size h) (F_size h).kp (bi_size h) (a_cons (e_sub (e_var (i := 9) rfl (vis_by rfl)) e_int (fun _ _ => rfl)) a_nil)) (e_tup (a_cons e_int (a_cons e_int a_nil))) (by rfl)) (e_and (e_cmp (or_eq (hu_of B)) (e_call B (Emp.live hR) (ok_size h n) hR (by first | omega | (unfold lv; omega)) (by rfl) (g_size h) (F_size h).kp (bi_size h) (a_cons (e_sub (e_var (i := 10) rfl (vis_by rfl)) e_int (fun _ _ => rfl)) a_nil)) (e_tup (a_cons e_int (a_cons e_int a_nil))) (by rfl)) (e_one (e_call0 B (Emp.live hR) (ok__law_refused h n (fun m hm => V m (by omega))) hR (by unfold lv; omega) (by rfl) (g__law_refused h) (F__law_refused h).kp (bi__law_refused h))))))
      ss_nil))))))))
theorem lb_0 (h : HY K mg base) (n : Nat) (V : ∀ m, m < n + 1 → AV P w K mg base m) : LamB P w K mg base (gs K) ["call", "odd"] lt_0 l_0 (lv (n + 1)) n :=
  lamB_C fun clo cok a c' cl A outer s H E B live cb => (e_callv B live (V n (by omega)).1 (V n (by omega)).2 (by unfold lv; omega) (i := 0) rfl (vis_by rfl) (a_cons (e_var (i := 1) rfl (vis_by rfl)) a_nil))
theorem lb_1 (h : HY K mg base) (n : Nat) (V : ∀ m, m < n + 1 → AV P w K mg base m) : LamB P w K mg base (gs K) ["odd", "call"] lt_1 l_1 (lv (n + 1)) n :=
  lamB_C fun clo cok a c' cl A outer s H E B live cb => (e_callv B live (V n (by omega)).1 (V n (by omega)).2 (by unfold lv; omega) (i := 1) rfl (vis_by rfl) (a_cons (e_var (i := 0) rfl (vis_by rfl)) (a_cons e_non a_nil)))
theorem lb_2 (h : HY K mg base) (n : Nat) (V : ∀ m, m < n + 1 → AV P w K mg base m) : LamB P w K mg base (gs K) ["odd"] lt_2 l_2 (lv (n + 1)) n :=
  lamB_C fun clo cok a c' cl A outer s H E B live cb => (e_callE B (ok_stands h n) (by first | omega | (unfold lv; omega)) (by rfl) (g_stands h) (F_stands h).kp (bi_stands h) (a_cons e_int (a_cons (e_var (i := 0) rfl (vis_by rfl)) a_nil)))
theorem lb_3 (h : HY K mg base) (n : Nat) (V : ∀ m, m < n + 1 → AV P w K mg base m) : LamB P w K mg base (gs K) ["odd"] lt_3 l_3 (lv (n + 1)) n :=
  lamB_C fun clo cok a c' cl A outer s H E B live cb => (e_callE B (ok_hue h n) (by first | omega | (unfold lv; omega)) (by rfl) (g_hue h) (F_hue h).kp (bi_hue h) (a_cons e_int (a_cons (e_var (i := 0) rfl (vis_by rfl)) a_nil)))
theorem valC (h : HY K mg base) (n : Nat) (V : ∀ m, m < n → AV P w K mg base m) : ValC P w K mg base (gs K) (lv n) n := by
  intro lid li e
  have hx := mem_look (l := lamL) e
  simp only [lamL, List.mem_cons, List.mem_nil_iff, or_false, Prod.mk.injEq] at hx
  rcases hx with ⟨rfl, rfl⟩ | ⟨rfl, rfl⟩ | ⟨rfl, rfl⟩ | ⟨rfl, rfl⟩
  · exact ⟨["call", "odd"], [], ls_0, rfl, rfl, rfl, fun cl pm cv ctv us hl => match us, hl with | [], _ => rfl, fun m hm => by subst hm; exact lb_0 h m V⟩
  · exact ⟨["odd", "call"], ["odd"], ls_1, rfl, rfl, rfl, fun cl pm cv ctv us hl => match us, hl with | [_], _ => rfl, fun m hm => by subst hm; exact lb_1 h m V⟩
  · exact ⟨["odd"], ["odd"], ls_2, rfl, rfl, rfl, fun cl pm cv ctv us hl => match us, hl with | [_], _ => rfl, fun m hm => by subst hm; exact lb_2 h m V⟩
  · exact ⟨["odd"], ["odd"], ls_3, rfl, rfl, rfl, fun cl pm cv ctv us hl => match us, hl with | [_], _ => rfl, fun m hm => by subst hm; exact lb_3 h m V⟩
theorem valF (h : HY K mg base) (n : Nat) (V : ∀ m, m < n → AV P w K mg base m) : ValF P w K mg base (gs K) (lv n) n := by
  intro id v e
  obtain ⟨x, hx, rfl⟩ := tab_inv e
  simp only [tabN, List.mem_cons, List.mem_nil_iff, or_false, Prod.mk.injEq] at hx
  rcases hx with ⟨rfl, rfl⟩ | ⟨rfl, rfl⟩ | ⟨rfl, rfl⟩
  · exact ⟨_, fdA K "hue" st_hue, ["prime", "point"], rfl, (F_hue h).kp, bi_hue h, (ok_hue h n).mono (by unfold lv; omega)⟩
  · exact ⟨_, fdA K "stands" st_stands, ["prime", "fraction"], rfl, (F_stands h).kp, bi_stands h, (ok_stands h n).mono (by unfold lv; omega)⟩
  · exact ⟨_, fdA K "size" st_size, ["triangle"], rfl, (F_size h).kp, bi_size h, (ok_size h n).mono (by unfold lv; omega)⟩
theorem av (h : HY K mg base) (n : Nat) : ∀ m, m < n → AV P w K mg base m := by
  induction n with
  | zero => exact fun m hm => absurd hm (Nat.not_lt_zero m)
  | succ n ih =>
    intro m hm
    have V : ∀ j, j < m → AV P w K mg base j := fun j hj => ih j (by omega)
    exact ⟨valC h m V, valF h m V⟩
end
end K01
/-! M01: the plain law of k01. -/
namespace K01
open PySem Iv Sh
abbrev CF (n : Nat) := callF PHI LAM NM FF4 n
theorem td : TriDefs PHI := ⟨rfl, rfl, rfl, rfl, rfl, rfl, rfl, rfl, rfl, rfl⟩
theorem ld : LawDefs PHI := ⟨rfl, rfl, rfl, rfl, rfl, rfl, rfl, rfl, rfl⟩
def PL : List Nat := [2, 2, 3, 5, 7, 11, 97]
theorem divInt_le {t b : Int} (hb : 0 < b) : (Rat.divInt t b).num.natAbs ≤ t.natAbs ∧ (Rat.divInt t b).den ≤ b.natAbs := by
  obtain ⟨n, d, g, hg, eg, et, eb, cp⟩ := gcd_div (t := t) (b := b) (by omega)
  have key : ∀ n' c : Int, c ≠ 0 → n'.natAbs ≤ (n' * c).natAbs := fun n' c hc => by
    rw [Int.natAbs_mul]
    exact Nat.le_mul_of_pos_right _ (by omega)
  have hd : 0 < d := by
    rcases Int.lt_or_le 0 d with z | z
    · exact z
    · have := Int.mul_nonpos_of_nonpos_of_nonneg z (Int.le_of_lt hg)
      omega
  obtain ⟨h1, h2⟩ := divInt_of (by omega) hd et eb cp
  have k1 := key n g (by omega)
  have k2 := key d g (by omega)
  rw [← et] at k1
  rw [← eb] at k2
  rw [h1]
  omega
theorem layH (h : Hue) : ∃ p, Lay (encH h) p 0 := Vl.lay (w := 0) (B := 0) (by cases h <;> exact strOk_of _)
theorem ne_H (h : Hue) : cmpO .ne (encH h) (encH h) = some false := by
  obtain ⟨p, hp⟩ := layH h
  exact c_ne_same hp (by decide)
theorem ne_tv (p : Nat) (q : Rat) : cmpO .ne (tvD p q) (tvD p q) = some false := by
  unfold tvD
  split
  · exact c_ne_same (.non 0) (by decide)
  · exact c_ne_same (.int _ 0) (by decide)
theorem ne_Q (q : Rat) : cmpO .ne (encQ q) (encQ q) = some false := c_ne_same (layQ q 0) (by decide)
section
variable {S : Store}
theorem need_ok : ∀ p ∈ PL, CF 38 (.fn 14) [.int (p : Int)] S = .ok .non S := by
  intro p hp
  simp only [PL, List.mem_cons, List.mem_nil_iff, or_false] at hp
  rcases hp with rfl | rfl | rfl | rfl | rfl | rfl | rfl <;> kernel_rfl
theorem PL_bd {p : Nat} (h : p ∈ PL) : 2 ≤ p ∧ p < 1000 := by
  simp only [PL, List.mem_cons, List.mem_nil_iff, or_false] at h
  omega
theorem sp_fraction {m : Nat} (v : Vat m S) : ∃ q S', CF 39 (.fn 40) [.obj m] S = .ok (encQ q) S' ∧ qOk q = true ∧ VS m S S' := by
  obtain ⟨d, S1, e1, hd, v1⟩ := sp_some (Φ := PHI) (Λ := LAM) (nm := NM) (F := FF4) (n := 36) rfl rfl v (xs := [.int 2, .int 5, .int 12, .int 1000, .int 1000000]) (by simp) (by simp)
  obtain ⟨w, hw, rfl⟩ : ∃ w : Int, (2 ≤ w ∧ w ≤ 1000000) ∧ d = .int w := by
    simp only [List.mem_cons, List.mem_nil_iff, or_false] at hd
    rcases hd with e | e | e | e | e <;> exact ⟨_, by decide, e⟩
  obtain ⟨r, S2, e2, r0, r1, v2⟩ := sp_under (Φ := PHI) (Λ := LAM) (nm := NM) (F := FF4) (n := 37) rfl v1.vat (k := 2 * w + 1) (by omega) (by omega)
  obtain ⟨u, S3, e3, u0, u1, v3⟩ := sp_under (Φ := PHI) (Λ := LAM) (nm := NM) (F := FF4) (n := 37) rfl v2.vat (k := w) (by omega) (by omega)
  refine ⟨Rat.divInt (r - w) (1 + u), S3, ?_, ?_, (v1.trans v2).trans v3⟩
  · refine call_ret (Φ := PHI) rfl rfl (R_asg (S1 := S1) (ρ1 := [.val (.obj m), .val (.int w)]) (E_call (S1 := S) (ds := [.obj m, .lst [.int 2, .int 5, .int 12, .int 1000, .int 1000000]]) (Es_cons (E_var rfl) (Es_cons (E_lst (Es_cons E_lit (Es_cons E_lit (Es_cons E_lit (Es_cons E_lit (Es_cons (E_bin E_lit E_lit rfl) Es_nil))))) rfl) Es_nil)) e1) rfl
      (R_ret (E_call (S1 := S3) (ds := [.int (r - w), .int (1 + u)]) (Es_cons (S1 := S2) (E_bin (S1 := S2) (E_call (S1 := S1) (ds := [.obj m, .int (2 * w + 1)]) (Es_cons (E_var rfl) (Es_cons (E_bin (E_bin E_lit (E_var rfl) (B_mul ?_)) E_lit rfl) Es_nil)) e2) (E_var rfl) rfl) (Es_cons (S1 := S3) (E_bin (S1 := S2) E_lit (E_call (S1 := S2) (ds := [.obj m, .int w]) (Es_cons (E_var rfl) (Es_cons (E_var rfl) Es_nil)) e3) rfl) Es_nil)) (sp_law_low (Φ := PHI) (k := 7) rfl rfl (by omega) (by omega) (by decide)))))
    exact mulOk_small (lt_huge (k := 40) (by decide) (by decide)) (lt_huge (k := 40) (by omega) (by decide))
  · obtain ⟨h1, h2⟩ := divInt_le (t := r - w) (b := 1 + u) (by omega)
    simp only [qOk, Bool.and_eq_true, decide_eq_true_eq]
    omega
theorem frac_ok {q : Rat} (hq : qOk q = true) : CF 38 (.fn 2) [encQ q] S = .ok (.bl true) S := sp_is_fraction (Φ := PHI) rfl rfl rfl hq
theorem stands_ok {p : Nat} (hp : p ∈ PL) {q : Rat} (hq : qOk q = true) : CF 39 (.fn 15) [.int p, encQ q] S = .ok (tvD p q) S := by
  have hb := PL_bd hp
  exact call_ret (Φ := PHI) rfl rfl (R_expr (S1 := S) (E_call (Es_cons (E_var rfl) Es_nil) (need_ok p hp)) (R_ite_f (S1 := S) (k := false) (T_of (x := .bl false) (E_not (k := true) (E_call (S1 := S) (Es_cons (E_var rfl) Es_nil) (frac_ok hq)) rfl) rfl) rfl
    (R_ret (E_call (Es_cons (E_var rfl) (Es_cons (E_var rfl) Es_nil)) (sp_times_in0 (Φ := PHI) rfl rfl hb.1 hb.2 (ok_lg hq) (by decide))))))
theorem pt_plain (p : Pnt) : Plain2 (encP p) := ⟨trivial, fun xs ex x hx => by
  cases ex
  simp only [List.mem_cons, List.mem_nil_iff, or_false] at hx
  rcases hx with rfl | rfl <;> exact ⟨trivial, fun ys ey y hy => by
    cases ey
    simp only [List.mem_cons, List.mem_nil_iff, or_false] at hy
    rcases hy with rfl | rfl <;> trivial⟩⟩
theorem isFr_enc {q : Rat} (hq : qOk q = true) : isFr (encQ q) = true := by
  have hd := den_pos q
  have hg := gcd_q q
  simp only [qOk, Bool.and_eq_true, decide_eq_true_eq] at hq
  simp only [isFr, isW, Bool.and_eq_true, decide_eq_true_eq]
  omega
theorem point_ok {p : Pnt} (hp : pOk p = true) : CF 38 (.fn 3) [encP p] S = .ok (.bl true) S := by
  simp only [pOk, Bool.and_eq_true] at hp
  have e : isPt (encP p) = true := by
    show (isFr _ && isFr _) = true
    rw [isFr_enc hp.1, isFr_enc hp.2]; rfl
  rw [← e]
  exact any_is_point (Φ := PHI) rfl rfl rfl rfl (pt_plain p)
theorem hue_ok {p : Nat} (hp : p ∈ PL) {q : Pnt} (hq : pOk q = true) : CF 39 (.fn 16) [.int p, encP q] S = .ok (encH (hueQ p q)) S := by
  have hb := PL_bd hp
  have lg : LgP 7 q := by
    simp only [pOk, Bool.and_eq_true] at hq
    exact ⟨ok_lg hq.1, ok_lg hq.2⟩
  exact call_ret (Φ := PHI) rfl rfl (R_expr (S1 := S) (E_call (Es_cons (E_var rfl) Es_nil) (need_ok p hp)) (R_ite_f (S1 := S) (k := false) (T_of (x := .bl false) (E_not (k := true) (E_call (S1 := S) (Es_cons (E_var rfl) Es_nil) (point_ok hq)) rfl) rfl) rfl
    (R_ret (E_call (Es_cons (E_var rfl) (Es_cons (E_var rfl) Es_nil)) (sp_hue_of (Φ := PHI) rfl rfl rfl hb.1 hb.2 lg (by decide))))))
theorem size_ok {t : Trg} (ht : tOk t = true) (hb : trB t = true) : CF 39 (.fn 18) [encT t] S = .ok (encQ (ar t)) S := by
  obtain ⟨l1, l2, l3⟩ := tok_lg ht
  have e := good_tri (Φ := PHI) (Λ := LAM) (nm := NM) (n := 32) (S := S) td ht
  rw [hb] at e
  exact call_ret (Φ := PHI) rfl rfl (R_ite_f (S1 := S) (k := false) (T_of (x := .bl false) (E_not (k := true) (E_call (S1 := S) (Es_cons (E_var rfl) Es_nil) e) rfl) rfl) rfl
    (R_ret (E_call (Es_cons (E_var rfl) Es_nil) (sp_size_of (Φ := PHI) rfl rfl rfl rfl rfl rfl l1 l2 l3 (by decide)))))
/-! ### one turn -/
abbrev kB : Sxs := sxB (sxN b_law_01.body 0)
abbrev tnB : Sxs := sxB (sxN kB 1)
abbrev agB : Sxs := sxB (sxN tnB 6)
theorem again_in {m : Nat} (v : Vat m S) {w B k : Nat} {d : D} (hd : Vl w B k d) (hw : w ≤ 100) (hB1 : 1 ≤ B) (hB : B < 10 ^ 500) (hk : k ≤ 35) (a0 a1 a3 a4 a5 a6 a8 a9 a10 a11 a12 a13 a14 a15 : Sl) :
    ∃ d' S', evSs (CF 39) NM FF4 agB [a0, a1, .val (.obj m), a3, a4, a5, a6, .val d, a8, a9, a10, a11, a12, a13, a14, a15] S = .ok (.next [a0, a1, .val (.obj m), a3, a4, a5, a6, .val d', a8, a9, a10, a11, a12, a13, a14, a15]) S' ∧ Vl (w + 2) (2 * B + 1) (k + 1) d' ∧ VS m S S' := by
  obtain ⟨b, e1, e2, _⟩ := tri_any (Φ := PHI) (Λ := LAM) (nm := NM) (n := 31) (S := S) td ld 32 hd (by omega)
  obtain ⟨d', S', e3, hv, vs⟩ := sp_spoilt (Φ := PHI) (Λ := LAM) (nm := NM) (m := m) rfl rfl hw hB1 hB k (37 - k) d S hd (by omega) v
  rw [show 37 - k + k + 2 = 39 by omega] at e3
  refine ⟨d', S', R_ite_f (S1 := S) (k := false) (T_of (x := .bl false) (E_not (k := true) (x := .bl (b == b)) (E_call (S1 := S) (ds := [.bl b, .bl b]) (Es_cons (E_call (S1 := S) (Es_cons (E_var rfl) Es_nil) (call_ret (Φ := PHI) rfl rfl (R_ret (E_call (Es_cons (E_var rfl) Es_nil) e1)))) (Es_cons (E_call (S1 := S) (Es_cons (E_var rfl) Es_nil) e2) Es_nil)) (sp_truly (Φ := PHI) rfl b b)) (by cases b <;> rfl)) rfl) rfl (R_asg (S1 := S') (E_call (Es_cons (E_var rfl) (Es_cons (E_var rfl) Es_nil)) e3) rfl Ss_nil), hv, vs⟩
theorem pts_of3 : ∀ {ds : List D}, ds.length = 3 → (∀ d ∈ ds, ∃ p, d = encP p ∧ pOk p = true) → ∃ a b c, ds = [encP a, encP b, encP c] ∧ pOk a = true ∧ pOk b = true ∧ pOk c = true
  | [x, y, z], _, h => by
    obtain ⟨a, rfl, ha⟩ := h x (by simp)
    obtain ⟨b, rfl, hb⟩ := h y (by simp)
    obtain ⟨c, rfl, hc⟩ := h z (by simp)
    exact ⟨a, b, c, rfl, ha, hb, hc⟩
theorem tok_perm {t : Trg} {a b c : Pnt} (h : Perm3 t a b c) (ha : pOk a = true) (hb : pOk b = true) (hc : pOk c = true) : tOk t = true := by
  unfold tOk
  rcases h with rfl | rfl | rfl | rfl | rfl | rfl <;> simp [ha, hb, hc]
theorem draws3 {m : Nat} (v : Vat m S) (a0 a1 a3 a4 a5 a6 a7 a8 a9 a10 a11 a12 a13 a14 a15 : Sl) : ∃ t S', evE (CF 39) (.bi .tuple (.cons (.bi .sorted (.cons (.comp (.range1 (.lit (.int 3))) (.nm 15) [15] .none (.tup (.cons (.call 40 (.cons (.var 2) .nil)) (.cons (.call 40 (.cons (.var 2) .nil)) .nil)))) .nil)) .nil)) [a0, a1, .val (.obj m), a3, a4, a5, a6, a7, a8, a9, a10, a11, a12, a13, a14, a15] S = .ok (encT t) S' ∧ tOk t = true ∧ VS m S S' := by
  obtain ⟨ds, S2, e2, hlen, hQ, vt, v2⟩ := compLoop_drawn (p := .nm 15) (ρ := [a0, a1, .val (.obj m), a3, a4, a5, a6, a7, a8, a9, a10, a11, a12, a13, a14, .none]) (f := elemB (fun ρ1 S => evC (CF 39) .none ρ1 S) (fun ρ1 S => evE (CF 39) (.tup (.cons (.call 40 (.cons (.var 2) .nil)) (.cons (.call 40 (.cons (.var 2) .nil)) .nil))) ρ1 S))
    (Vat m) (VS m) (fun a b => a.trans b) (fun h => VS.refl h) (fun d => ∃ p, d = encP p ∧ pOk p = true) [.int 0, .int 1, .int 2] S v (fun x hx S v => by
      obtain ⟨q, S1, e1, hq, v1⟩ := sp_fraction v
      obtain ⟨r, S2, e2, hr, v2⟩ := sp_fraction v1.vat
      exact ⟨_, encP (q, r), S2, rfl, elem_1 C_none (E_tup (Es_cons (E_call (Es_cons (E_var rfl) Es_nil) e1) (Es_cons (E_call (Es_cons (E_var rfl) Es_nil) e2) Es_nil)) rfl), ⟨_, rfl, by unfold pOk; rw [hq, hr]; rfl⟩, v2.vat, v1.trans v2⟩)
  obtain ⟨a, b, c, rfl, ha, hb, hc⟩ := pts_of3 hlen hQ
  obtain ⟨t, ht, es⟩ := sort3 a b c
  exact ⟨t, S2, E_bi (Es_cons (E_bi (Es_cons (E_comp (S1 := S) (I_range1 E_lit rfl) e2 (Nat.le_of_ble_eq_true rfl)) Es_nil) es) Es_nil) rfl, tok_perm ht ha hb hc, v2⟩
theorem vl_T {t : Trg} (ht : tOk t = true) : Vl 3 (10 ^ 6) 3 (encT t) := by
  have q : ∀ x : Rat, qOk x = true → Vl 3 (10 ^ 6) 1 (encQ x) := fun x hx => by
    have hd := den_pos x
    simp only [qOk, Bool.and_eq_true, decide_eq_true_eq] at hx
    refine ⟨Nat.le_of_ble_eq_true rfl, fun y hy => ?_⟩
    simp only [List.mem_cons, List.mem_nil_iff, or_false] at hy
    rcases hy with rfl | rfl
    · show x.num.natAbs ≤ 10 ^ 6
      omega
    · show ((x.den : Int)).natAbs ≤ 10 ^ 6
      omega
  have p : ∀ x : Pnt, pOk x = true → Vl 3 (10 ^ 6) 2 (encP x) := fun x hx => by
    simp only [pOk, Bool.and_eq_true] at hx
    refine ⟨Nat.le_of_ble_eq_true rfl, fun y hy => ?_⟩
    simp only [List.mem_cons, List.mem_nil_iff, or_false] at hy
    rcases hy with rfl | rfl
    · exact q _ hx.1
    · exact q _ hx.2
  simp only [tOk, Bool.and_eq_true] at ht
  refine ⟨Nat.le_of_ble_eq_true rfl, fun y hy => ?_⟩
  simp only [List.mem_cons, List.mem_nil_iff, or_false] at hy
  rcases hy with rfl | rfl | rfl
  · exact p _ ht.1
  · exact p _ ht.2.1
  · exact p _ ht.2.2
theorem turn_in {m : Nat} (v : Vat m S) (a0 a1 a3 a4 a5 a6 a7 a8 a9 a10 a11 a12 a13 a14 a15 : Sl) :
    ∃ b4 b5 b6 b7 b8 S', evSs (CF 39) NM FF4 tnB [a0, a1, .val (.obj m), a3, a4, a5, a6, a7, a8, a9, a10, a11, a12, a13, a14, a15] S = .ok (.next [a0, a1, .val (.obj m), a3, b4, b5, b6, b7, b8, a9, a10, a11, a12, a13, a14, a15]) S' ∧ VS m S S' := by
  obtain ⟨d, S1, e1, hd, v1⟩ := sp_some (Φ := PHI) (Λ := LAM) (nm := NM) (F := FF4) (n := 37) rfl rfl v (xs := PL.map fun (p : Nat) => D.int (p : Int)) (by simp [PL]) (by simp [PL])
  obtain ⟨p, hp, rfl⟩ := List.mem_map.mp hd
  have hb := PL_bd hp
  obtain ⟨q, S2, e2, hq, v2⟩ := sp_fraction v1.vat
  obtain ⟨x, S3, e3, hx, v3⟩ := sp_fraction v2.vat
  obtain ⟨y0, S4, e4, hy0, v4⟩ := sp_fraction v3.vat
  obtain ⟨d, S5, e5, hd5, v5⟩ := sp_some (Φ := PHI) (Λ := LAM) (nm := NM) (F := FF4) (n := 37) rfl rfl v4.vat (xs := [encQ q, encQ 0, encQ 1, encQ y0]) (by simp) (by simp)
  obtain ⟨y, rfl, hy⟩ : ∃ y, d = encQ y ∧ qOk y = true := by
    simp only [List.mem_cons, List.mem_nil_iff, or_false] at hd5
    rcases hd5 with e | e | e | e
    · exact ⟨_, e, hq⟩
    · exact ⟨_, e, by decide +kernel⟩
    · exact ⟨_, e, by decide +kernel⟩
    · exact ⟨_, e, hy0⟩
  have hpt : pOk (x, y) = true := by unfold pOk; rw [hx, hy]; rfl
  obtain ⟨t, S6, e6, ht, v6⟩ := draws3 v5.vat a0 a1 a3 (.val (.int (p : Int))) (.val (encQ q)) (.val (encP (x, y))) a7 a8 a9 a10 a11 a12 a13 a14 a15
  obtain ⟨l1, l2, l3⟩ := tok_lg ht
  have v16 := ((((v1.trans v2).trans v3).trans v4).trans v5).trans v6
  obtain ⟨ρ', S7, e7, hI⟩ := for_inv (b := evSs (CF 39) NM FF4 agB) (p := .nm 8) (fun i ρ S' => VS m S6 S' ∧ ∃ d b8, Vl (3 + 2 * i) (10 ^ (6 + i)) (3 + i) d ∧ ρ = [a0, a1, .val (.obj m), a3, .val (.int (p : Int)), .val (encQ q), .val (encP (x, y)), .val d, b8, a9, a10, a11, a12, a13, a14, a15]) (xs := [.int 0, .int 1, .int 2, .int 3, .int 4]) (i := 0)
    (ρ := [a0, a1, .val (.obj m), a3, .val (.int (p : Int)), .val (encQ q), .val (encP (x, y)), .val (encT t), a8, a9, a10, a11, a12, a13, a14, a15]) (S := S6) (fun j z ρ S' hz hI => by
      obtain ⟨vs, d, b8, hv, rfl⟩ := hI
      have hj : j < 5 := by
        have := (List.getElem?_eq_some_iff.mp hz).1
        simpa using this
      obtain ⟨d', S8, e8, hv8, v8⟩ := again_in vs.vat hv (by omega) (Nat.pow_pos (by decide)) (Nat.pow_lt_pow_right (by decide) (by omega)) (by omega) a0 a1 a3 (.val (.int (p : Int))) (.val (encQ q)) (.val (encP (x, y))) (.val z) a9 a10 a11 a12 a13 a14 a15
      refine ⟨_, _, S8, rfl, e8, vs.trans v8, d', _, Vl.mono (by omega) ?_ (by omega) hv8, rfl⟩
      have h1 : 10 ^ (6 + (0 + j + 1)) = 10 ^ (6 + (0 + j)) * 10 := by rw [← Nat.pow_succ]; rfl
      have h2 : 0 < 10 ^ (6 + (0 + j)) := Nat.pow_pos (by decide)
      omega) ⟨VS.refl v16.vat, encT t, a8, vl_T ht, rfl⟩
  obtain ⟨vs, d7, b8, _, rfl⟩ := hI
  refine ⟨.val (.int (p : Int)), .val (encQ q), .val (encP (x, y)), .val d7, b8, S7, ?_, v16.trans vs⟩
  refine R_par2 (S1 := S1) (S2 := S2) (x := .int (p : Int)) (y := encQ q) (E_call (S1 := S) (ds := [.obj m, .lst (PL.map fun (p : Nat) => D.int (p : Int))]) ?_ e1) (E_call (Es_cons (E_var rfl) Es_nil) e2) ?_
  · exact Es_cons (E_var rfl) (Es_cons (E_lst (Es_cons E_lit (Es_cons E_lit (Es_cons E_lit (Es_cons E_lit (Es_cons E_lit (Es_cons E_lit (Es_cons E_lit Es_nil))))))) rfl) Es_nil)
  refine R_ite_f (S1 := S2) (k := false) (T_of (x := .bl false) (E_cmp (S1 := S2) (x := tvD p q) (y := tvD p q) (E_call (Es_cons (E_var rfl) (Es_cons (E_var rfl) Es_nil)) (stands_ok hp hq)) ?_ (ne_tv p q)) rfl) rfl ?_
  · unfold tvD
    by_cases q0 : q = 0
    · rw [if_pos q0]
      have hn : q.num = 0 := by rw [q0]; rfl
      exact E_ite_t (x := .bl (decide (q.num = 0))) (E_cmp (E_sub (E_var rfl) E_lit rfl) E_lit (c_eq_int _ _)) (by rw [decide_eq_true hn]; rfl) E_lit
    · rw [if_neg q0]
      exact E_ite_f (x := .bl (decide (q.num = 0))) (E_cmp (E_sub (E_var rfl) E_lit rfl) E_lit (c_eq_int _ _)) (by rw [decide_eq_false (num_ne q0)]; rfl) (E_call (Es_cons (E_var rfl) (Es_cons (E_var rfl) Es_nil)) (sp_law_times (Φ := PHI) rfl hb.1 hb.2 q0 (ok_lg hq) (by decide)))
  simp only [Sxs.app]
  refine R_asg (S1 := S5) (d := encP (x, y)) (ρ1 := [a0, a1, .val (.obj m), a3, .val (.int (p : Int)), .val (encQ q), .val (encP (x, y)), a7, a8, a9, a10, a11, a12, a13, a14, a15]) (E_tup (Es_cons (S1 := S3) (E_call (Es_cons (E_var rfl) Es_nil) e3) (Es_cons (S1 := S5) (E_call (S1 := S4) (ds := [.obj m, .lst [encQ q, encQ 0, encQ 1, encQ y0]]) (Es_cons (E_var rfl) (Es_cons (S1 := S4) (E_lst (Es_cons (E_var rfl) (Es_cons (E_tup (Es_cons E_lit (Es_cons E_lit Es_nil)) rfl) (Es_cons (E_tup (Es_cons E_lit (Es_cons E_lit Es_nil)) rfl) (Es_cons (E_call (Es_cons (E_var rfl) Es_nil) e4) Es_nil)))) rfl) Es_nil)) e5) Es_nil)) rfl) rfl ?_
  refine R_ite_f (S1 := S5) (k := false) (T_of (x := .bl false) (E_cmp (S1 := S5) (x := encH (hueQ p (x, y))) (y := encH (hueQ p (x, y))) (E_call (Es_cons (E_var rfl) (Es_cons (E_var rfl) Es_nil)) (hue_ok hp hpt)) (E_call (Es_cons (E_var rfl) (Es_cons (E_var rfl) Es_nil)) (sp_law_hue (Φ := PHI) rfl rfl hb.1 hb.2 (k := 7) ⟨ok_lg hx, ok_lg hy⟩ (by decide))) (ne_H _)) rfl) rfl ?_
  simp only [Sxs.app]
  refine R_asg (S1 := S6) (d := encT t) (ρ1 := [a0, a1, .val (.obj m), a3, .val (.int (p : Int)), .val (encQ q), .val (encP (x, y)), .val (encT t), a8, a9, a10, a11, a12, a13, a14, a15]) e6 rfl ?_
  have hc : evT (CF 39) (.and (.call 31 (.cons (.var 7) .nil)) (.cmp .ne (.call 18 (.cons (.var 7) .nil)) (.call 30 (.cons (.var 7) .nil)))) [a0, a1, .val (.obj m), a3, .val (.int (p : Int)), .val (encQ q), .val (encP (x, y)), .val (encT t), a8, a9, a10, a11, a12, a13, a14, a15] S6 = .ok false S6 := by
    have e := law_tri (Φ := PHI) (Λ := LAM) (nm := NM) (n := 33) (S := S6) ld ht
    cases hB : trB t with
    | false =>
      rw [hB] at e
      exact T_of (x := .bl false) (E_and_f (x := .bl false) (E_call (Es_cons (E_var rfl) Es_nil) e) rfl) rfl
    | true =>
      rw [hB] at e
      exact T_of (x := .bl false) (E_and_t (x := .bl true) (S1 := S6) (E_call (Es_cons (E_var rfl) Es_nil) e) rfl (E_cmp (S1 := S6) (x := encQ (ar t)) (y := encQ (ar t)) (E_call (Es_cons (E_var rfl) Es_nil) (size_ok ht hB)) (E_call (Es_cons (E_var rfl) Es_nil) (sp_law_size (Φ := PHI) rfl rfl rfl rfl rfl l1 l2 l3 (by decide))) (ne_Q _))) rfl
  refine R_ite_f (S1 := S6) hc rfl ?_
  simp only [Sxs.app]
  exact R_for (S1 := S6) (I_range1 E_lit rfl) e7 Ss_nil
theorem last_ok (a0 a1 a2 a3 a4 a5 a6 a7 a8 a9 a10 a11 a12 a13 a14 a15 : Sl) : evSs (CF 39) NM FF4 (sxD b_law_01.body 1) [a0, a1, a2, a3, a4, a5, a6, a7, a8, a9, a10, a11, a12, a13, a14, a15] S = .ok (.ret (.bl true)) S := by kernel_rfl
theorem k_in {ns : List Int} (hb : ∀ z ∈ ns, Builtin.Int.intBits z ≤ 1048576) {k : Int} (h0 : 0 ≤ k) (h1 : k ≤ 100) (a2 a3 a4 a5 a6 a7 a8 a9 a10 a11 a12 a13 a14 a15 : Sl) :
    ∃ b2 b3 b4 b5 b6 b7 b8 S', evSs (CF 39) NM FF4 kB [.val (.lst (ns.map .int)), .val (.int k), a2, a3, a4, a5, a6, a7, a8, a9, a10, a11, a12, a13, a14, a15] S = .ok (.next [.val (.lst (ns.map .int)), .val (.int k), b2, b3, b4, b5, b6, b7, b8, a9, a10, a11, a12, a13, a14, a15]) S' := by
  obtain ⟨S1, e1, v1, _, _⟩ := sp_vat (Φ := PHI) (Λ := LAM) (nm := NM) (F := FF4) (n := 38) (S := S) rfl hb h0 (by omega)
  obtain ⟨ρ', S', e, hI⟩ := for_inv (b := evSs (CF 39) NM FF4 tnB) (p := .nm 3) (fun i ρ S' => VS S.length S1 S' ∧ ∃ a3 a4 a5 a6 a7 a8, ρ = [.val (.lst (ns.map .int)), .val (.int k), .val (.obj S.length), a3, a4, a5, a6, a7, a8, a9, a10, a11, a12, a13, a14, a15]) (xs := [.int 0, .int 1, .int 2, .int 3, .int 4, .int 5, .int 6, .int 7]) (i := 0)
    (ρ := [.val (.lst (ns.map .int)), .val (.int k), .val (.obj S.length), a3, a4, a5, a6, a7, a8, a9, a10, a11, a12, a13, a14, a15]) (S := S1) (fun j x ρ S' hx hI => by
      obtain ⟨vs, b3, b4, b5, b6, b7, b8, rfl⟩ := hI
      obtain ⟨c4, c5, c6, c7, c8, S2, e2, v2⟩ := turn_in vs.vat (.val (.lst (ns.map .int))) (.val (.int k)) (.val x) b4 b5 b6 b7 b8 a9 a10 a11 a12 a13 a14 a15
      exact ⟨_, _, S2, rfl, e2, vs.trans v2, _, _, _, _, _, _, rfl⟩) ⟨VS.refl v1, _, _, _, _, _, _, rfl⟩
  obtain ⟨vs, b3, b4, b5, b6, b7, b8, rfl⟩ := hI
  exact ⟨_, _, _, _, _, _, _, S', R_asg (E_call (Es_cons (E_var rfl) (Es_cons (E_var rfl) Es_nil)) e1) rfl (R_for (I_range1 E_lit rfl) e Ss_nil)⟩
theorem law_ok (ns : List Int) (hl : ns.length ≤ 63) (hb : ∀ z ∈ ns, Builtin.Int.intBits z ≤ 1048576) : ∃ S', CF 40 (.fn 42) [.lst (ns.map .int)] [] = .ok (.bl true) S' := by
  obtain ⟨K, hK, h0, h12⟩ : ∃ K : Int, biO .max2 [.int 5, .int (if (ns.length : Int) < 11 then (ns.length : Int) else 11)] = some (.int K) ∧ 0 ≤ K ∧ K ≤ 12 := by
    refine ⟨_, rfl, ?_, ?_⟩
    · split <;> split <;> omega
    · split <;> split <;> omega
  obtain ⟨ρ', S', e, hI⟩ := for_inv (b := evSs (CF 39) NM FF4 kB) (p := .nm 1) (fun i ρ S' => ∃ a1 a2 a3 a4 a5 a6 a7 a8 a9 a10 a11 a12 a13 a14 a15, ρ = [.val (.lst (ns.map .int)), a1, a2, a3, a4, a5, a6, a7, a8, a9, a10, a11, a12, a13, a14, a15]) (xs := (List.range K.toNat).map fun (i : Nat) => D.int (0 + (i : Int))) (i := 0)
    (ρ := [.val (.lst (ns.map .int)), .none, .none, .none, .none, .none, .none, .none, .none, .none, .none, .none, .none, .none, .none, .none]) (S := []) (fun j x ρ S hx hI => by
      obtain ⟨a1, a2, a3, a4, a5, a6, a7, a8, a9, a10, a11, a12, a13, a14, a15, rfl⟩ := hI
      rw [List.getElem?_map] at hx
      cases hj : (List.range K.toNat)[j]? with
      | none => rw [hj] at hx; cases hx
      | some q =>
        rw [hj] at hx
        cases hx
        have hq : q < K.toNat := by
          have := List.mem_of_getElem? hj
          simpa using this
        obtain ⟨b2, b3, b4, b5, b6, b7, b8, S', e⟩ := k_in (S := S) hb (k := 0 + (q : Int)) (by omega) (by omega) a2 a3 a4 a5 a6 a7 a8 a9 a10 a11 a12 a13 a14 a15
        exact ⟨_, _, S', rfl, e, _, _, _, _, _, _, _, _, _, _, _, _, _, _, _, rfl⟩) ⟨_, _, _, _, _, _, _, _, _, _, _, _, _, _, _, rfl⟩
  obtain ⟨a1, a2, a3, a4, a5, a6, a7, a8, a9, a10, a11, a12, a13, a14, a15, rfl⟩ := hI
  have e2 := last_ok (S := S') (.val (.lst (ns.map .int))) a1 a2 a3 a4 a5 a6 a7 a8 a9 a10 a11 a12 a13 a14 a15
  refine ⟨S', call_ret (Φ := PHI) rfl rfl (R_for (I_range1 (i := K) (S1 := []) (E_bi (Es_cons E_lit (Es_cons (E_bi (Es_cons E_lit (Es_cons (E_bi (Es_cons (E_var rfl) Es_nil) rfl) Es_nil)) ?_) Es_nil)) hK) (rng0 h0 (by omega))) e e2)⟩
  show some (D.int (if ((ns.map D.int).length : Int) < 11 then ((ns.map D.int).length : Int) else 11)) = _
  rw [List.length_map]
theorem pure (ns : List Int) (hl : ns.length ≤ 63) (hb : ∀ z ∈ ns, Builtin.Int.intBits z ≤ 1048576) : ∃ S', callF PHI LAM NM FF 40 (.fn 42) [.lst (ns.map .int)] [] = .ok (.bl true) S' := law_ok ns hl hb
end
end K01
namespace K01
open PySem PySem.Spec PyProof.Rows L2 Iv
abbrev R : PySem.W.OpenRow := PySem.W.OpenLaw.row PySem.Challenge.rw_oddcuts_k01_points_and_triangles
abbrev hk : PySem.W.Hook := He.hookX 4 fa fn [] tf ex
def ob (s : PySem.W.SharedT) : He.AlX := He.obsX 4 fa fn [] tf ex (HandSHeadRun.getT s)
theorem ob_eq (s : PySem.W.SharedT) : ob s = hk.obs s.abs := He.obsX_eq (HandSHeadRun.getT_eq s)
def loose : List Str := (["OddError", "InvalidShare", "InvalidCutting", "InvalidNumber", "InvalidPrime", "InvalidFraction", "InvalidPoint", "InvalidTriangle", "InvalidSide", "InvalidSizes", "InvalidIndex", "InvalidCorner", "InvalidPart", "InvalidHow", "InvalidFacts", "InvalidText", "Apart", "OutOfReach", "Unlike", "NothingToUndo", "TooMany", "FAR", "LAST_PRIME", "common_of", "is_whole", "is_fraction", "is_point", "low", "minus", "times"] : List Str) ++ (["turn_of", "size_of", "is_good_triangle", "divides", "times_in", "hue_of", "is_prime", "need_prime", "stands", "hue", "is_triangle", "size", "_law_vat", "_law_under", "_law_some", "_law_is_whole", "_law_truly", "_law_gcd", "_law_low", "_law_sum", "_law_is_fraction", "_law_is_point", "_law_cross", "_law_size", "_law_is_triangle", "_law_times", "_law_hue", "_law_spoilt", "_law_names", "_law_error"] : List Str) ++ (["_law_all_refused", "_law_known", "_law_bad_primes", "_law_fraction", "_law_refused"] : List Str)
set_option maxHeartbeats 0 in
theorem run (w : World) : HandSHeadRun.RunEq R (PySem.W.view R.prog [68]) hk ob 20000 loose w := by
  intro os
  kernel_rfl
end K01
open PySem PySem.W PySem.Calls PyProof.Rows
set_option maxRecDepth 100000 in
set_option maxHeartbeats 0 in
theorem PySem.Challenge.cw_oddcuts_k01_points_and_triangles_holds : PySem.Challenge.rw_oddcuts_k01_points_and_triangles.Holds := by
  w_on; o_law
  refine HandSHeadRun.head_any (r := OpenLaw.row PySem.Challenge.rw_oddcuts_k01_points_and_triangles) (q := view (OpenLaw.row PySem.Challenge.rw_oddcuts_k01_points_and_triangles).prog [68]) (H := K01.hk) (ob := K01.ob) (M := 20000) (loose := K01.loose) (d := HandSHeadRun.topDef (OpenLaw.row PySem.Challenge.rw_oddcuts_k01_points_and_triangles).prog 68) (kwd := []) K01.ob_eq
    (by kernel_rfl) (fun s => by kernel_rfl) K01.run (by kernel_rfl) (by kernel_rfl) (by kernel_rfl) (by rfl) (by first | assumption | decide +kernel) (by decide +kernel) ⟨rfl, rfl, rfl, rfl, rfl, by decide +kernel⟩ ?hw ?hc
  case hw => w_witness2
  case hc =>
    refine LamX.walk_ofTsE (l := PySem.Challenge.rw_oddcuts_k01_points_and_triangles) (n := 63) (k := Iv.lv 40) (x := "script") (CX := fun w => L2N.CX (PySem.Challenge.rw_oddcuts_k01_points_and_triangles).prog w) rfl (by decide) (by kernel_rfl) ⟨rfl, by decide, by decide⟩ ?F ?C
    case C =>
      intro w H s e s' z
      obtain ⟨_, _, _, _, _, _, _, _, _, _, _, _, z⟩ := z
      exact z
    case F =>
      intro w mg fa h Y G hmg0
      obtain ⟨K, KX, c⟩ := Y
      have hmg : mg ("law" : PySem.Str) = some (.ref fa) := by
        have e : (HandSHeadRun.topDef (OpenLaw.row PySem.Challenge.rw_oddcuts_k01_points_and_triangles).prog 68).name = ("law" : PySem.Str) := by kernel_rfl
        rw [← e]
        exact hmg0
      exact Iv.lawAt (G0 := K01.gs K) (st := K01.st_law) c KX G hmg 42 81 rfl rfl (fun _ _ _ _ _ _ us hl => match us, hl with | [_], _ => rfl) (fun p hp => by
        obtain ⟨q, hq, rfl⟩ := List.mem_map.mp hp
        exact ⟨q, hq, rfl⟩) (He.ba (He.ba c.more).2).1 (fun base hy => K01.ok_law hy 40 (K01.av hy 40)) K01.pure
