import PyProof.Rows.All
import Wide.All
import OpenK.AllK
import Wide.FinOn
import HandS.ForMost
import HandS.ForExc
import HandS.Wide
import HandS.TupAny
import HandS.IsInst
import HandS.Flow
import HandS.Style
import HandS.Zip
import HandS.Conv
import HandS.TupMul
import KE.DataCmp
import KE.DataMinMax
import PySem.Challenge.RW_scatterrows_k46_whole_divisions_of_ordin
set_option Elab.async false
set_option linter.all false
set_option autoImplicit false
set_option maxRecDepth 100000
set_option maxHeartbeats 8000000
/-! IvA: a small language of pure data and flat mutable lists, and what it computes. Own work. -/
namespace L2.Iv
open PySem

/-- a value as data: immutable things whole, lists that nobody writes any more (lsv), lists that are written (loc: its number in the store) -/
inductive PV where
  | non | bl (b : Bool) | int (i : Int) | str (s : Str) | tup (xs : List PV) | lsv (xs : List PV) | loc (i : Nat)

mutual
def PV.free : PV → Bool
  | .loc _ => false
  | .tup xs => freeAll xs
  | .lsv xs => freeAll xs
  | .non => true
  | .bl _ => true
  | .int _ => true
  | .str _ => true
def freeAll : List PV → Bool
  | [] => true
  | x :: xs => x.free && freeAll xs
end
mutual
def PV.toD : PV → PyData
  | .loc _ => .none
  | .tup xs => .tuple (toDs xs)
  | .lsv xs => .list (toDs xs)
  | .non => .none
  | .bl b => .bool b
  | .int i => .int i
  | .str s => .str s
def toDs : List PV → List PyData
  | [] => []
  | x :: xs => x.toD :: toDs xs
end

abbrev Store := List (List PV)
abbrev Env := List (Option PV)

/-- how a piece of code ends -/
inductive Out (α : Type) where
  | ok (a : α) (st : Store)
  | exc (c : Str) (v : PV) (st : Store)
  | bad
def Out.bind {α β : Type} (o : Out α) (f : α → Store → Out β) : Out β := match o with
  | .ok a st => f a st
  | .exc c v st => .exc c v st
  | .bad => .bad
def Out.of {α : Type} (o : Option α) (st : Store) : Out α := match o with
  | some a => .ok a st
  | none => .bad
/-- no error may leave here -/
def Out.quiet {α : Type} (o : Out α) : Out α := match o with
  | .ok a st => .ok a st
  | _ => .bad
@[simp] theorem bind_ok {α β : Type} (a : α) (st : Store) (f : α → Store → Out β) : (Out.ok a st).bind f = f a st := rfl
@[simp] theorem bind_exc {α β : Type} (c : Str) (v : PV) (st : Store) (f : α → Store → Out β) : (Out.exc c v st).bind f = .exc c v st := rfl
@[simp] theorem bind_bad {α β : Type} (f : α → Store → Out β) : (Out.bad).bind f = .bad := rfl
@[simp] theorem of_some {α : Type} (a : α) (st : Store) : Out.of (some a) st = .ok a st := rfl
@[simp] theorem of_none {α : Type} (st : Store) : Out.of (none : Option α) st = .bad := rfl
@[simp] theorem quiet_ok {α : Type} (a : α) (st : Store) : (Out.ok a st).quiet = .ok a st := rfl

/-! ### single operations -/
/-- the items of a list -/
def seqL (st : Store) : PV → Option (List PV)
  | .lsv xs => some xs
  | .loc i => st[i]?
  | _ => none
/-- the items of a tuple or a list -/
def seqA (st : Store) : PV → Option (List PV)
  | .tup xs => some xs
  | .lsv xs => some xs
  | .loc i => st[i]?
  | _ => none
def newL (fr : Bool) (xs : List PV) (st : Store) : Out PV := if fr = true then .ok (.lsv xs) st else .ok (.loc st.length) (st ++ [xs])
def truthy (st : Store) : PV → Option Bool
  | .non => some false
  | .bl b => some b
  | .int i => some (i != 0)
  | .str s => if s.length ≤ sizeLine then some ((s.length : Int) != 0) else none
  | .tup xs => some (!xs.isEmpty)
  | .lsv xs => some (!xs.isEmpty)
  | .loc i => (st[i]?).map fun xs => !xs.isEmpty

inductive Bop where
  | add | sub | mul | fdiv | mod | pow | shl | shr | band | bor
inductive Cop where
  | eq | ne | lt | le | gt | ge | isin | notin | is | isnot

def addL (fr : Bool) (st : Store) (a b : PV) : Out PV := match seqL st a, seqL st b with
  | some xs, some ys => if xs.length + ys.length ≤ sizeLine then newL fr (xs ++ ys) st else .bad
  | _, _ => .bad
def addV (fr : Bool) (st : Store) : PV → PV → Out PV
  | .int i, .int j => .ok (.int (i + j)) st
  | .str i, .str j => if i.length + j.length ≤ sizeLine then .ok (.str (i ++ j)) st else .bad
  | .tup xs, .tup ys => if xs.length + ys.length ≤ sizeLine then .ok (.tup (xs ++ ys)) st else .bad
  | a, b => addL fr st a b
def mulL (fr : Bool) (st : Store) (a : PV) (k : Int) : Out PV := match seqL st a with
  | some xs => if -(2 ^ 63) ≤ k ∧ k < 2 ^ 63 ∧ xs.length * k.toNat ≤ sizeLine then newL fr (List.replicate k.toNat xs).flatten st else .bad
  | none => .bad
def mulV (fr : Bool) (st : Store) : PV → PV → Out PV
  | .int i, .int j => if i.natAbs.log2 + j.natAbs.log2 < 1000000 then .ok (.int (i * j)) st else .bad
  | .tup xs, .int k => if xs ≠ [] ∧ 2 ≤ k ∧ k ≤ 1000 ∧ xs.length ≤ 1000 then .ok (.tup (List.replicate k.toNat xs).flatten) st else .bad
  | a, .int k => mulL fr st a k
  | _, _ => .bad
def binV (o : Bop) (fr : Bool) (st : Store) (a b : PV) : Out PV := match o with
  | .add => addV fr st a b
  | .mul => mulV fr st a b
  | .sub => match a, b with
    | .int i, .int j => .ok (.int (i - j)) st
    | _, _ => .bad
  | .fdiv => match a, b with
    | .int i, .int j => if 0 < j ∧ j.natAbs.log2 < 9000 then .ok (.int (i / j)) st else .bad
    | _, _ => .bad
  | .mod => match a, b with
    | .int i, .int j => if 0 < j then .ok (.int (i % j)) st else .bad
    | _, _ => .bad
  | .pow => match a, b with
    | .int i, .int j => if 0 ≤ j ∧ j ≤ 1000000 ∧ i.natAbs < 2 ^ 64 then .ok (.int (i ^ j.toNat)) st else .bad
    | _, _ => .bad
  | .shl => match a, b with
    | .int i, .int j => if 0 ≤ j ∧ j ≤ 1000000 ∧ i.natAbs < 2 ^ 64 then .ok (.int (i * 2 ^ j.toNat)) st else .bad
    | _, _ => .bad
  | .shr => match a, b with
    | .int i, .int j => if 0 ≤ j then .ok (.int (i / 2 ^ j.toNat)) st else .bad
    | _, _ => .bad
  | .band => match a, b with
    | .int i, .int j => .ok (.int (Builtin.bitAnd i j)) st
    | _, _ => .bad
  | .bor => match a, b with
    | .int i, .int j => .ok (.int (Builtin.bitOr i j)) st
    | _, _ => .bad

/-- the same as data: of one kind and shape (what the model's == says of these) -/
def eqvD (a b : PV) : Option Bool :=
  if a.free = true ∧ b.free = true ∧ SeqAt.shaped a.toD = true ∧ SeqAt.shaped b.toD = true then some (PyData.eqv a.toD b.toD) else none
def eqvV (st : Store) : PV → PV → Option Bool
  | .str x, .str y => some (x == y)
  | a, b => eqvD a b
/-- flat things: what in looks through -/
def flatP : PV → Bool
  | .non => true
  | .bl _ => true
  | .int _ => true
  | .str _ => true
  | _ => false
/-- flat things are equal (eqVF x y: the item x, the sought one y) -/
def toV : PV → L2.V
  | .non => .non
  | .bl b => .bl b
  | .int i => .int i
  | .str s => .str s
  | _ => .non
def inP (x : PV) (xs : List PV) : Bool := xs.any fun y => L2.eqV (toV y) (toV x)
/-- the ints of a list -/
def intsOf : List PV → Option (List Int)
  | [] => some []
  | .int i :: r => (intsOf r).map (i :: ·)
  | _ :: _ => none
def blsOf : List PV → Option (List Bool)
  | [] => some []
  | .bl b :: r => (blsOf r).map (b :: ·)
  | _ :: _ => none
/-- data that can be ordered, of few storeys -/
def alikeP (a b : PV) : Bool := a.free && b.free && PySem.W.alike a.toD a.toD && PySem.W.alike a.toD b.toD && PySem.W.alike b.toD a.toD && PySem.W.alike b.toD b.toD && decide (a.toD.depth ≤ 64) && decide (b.toD.depth ≤ 64)
/-- a < b, two tuples -/
def ltP (a b : PV) : Option Bool := if alikeP a b = true then some (PySem.W.dataLt a.toD b.toD) else none
def cmpV (o : Cop) (st : Store) (a b : PV) : Option Bool := match o with
  | .eq => eqvV st a b
  | .ne => (eqvV st a b).map (!·)
  | .lt => match a, b with
    | .int i, .int j => some (decide (i < j))
    | .tup xs, .tup ys => ltP (.tup xs) (.tup ys)
    | _, _ => none
  | .le => match a, b with
    | .int i, .int j => some (decide (i ≤ j))
    | _, _ => none
  | .gt => match a, b with
    | .int i, .int j => some (decide (j < i))
    | .tup xs, .tup ys => ltP (.tup ys) (.tup xs)
    | _, _ => none
  | .ge => match a, b with
    | .int i, .int j => some (decide (j ≤ i))
    | _, _ => none
  | .isin => match seqA st b with
    | some xs => if flatP a = true ∧ xs.all flatP = true then some (inP a xs) else none
    | none => none
  | .notin => match seqA st b with
    | some xs => if flatP a = true ∧ xs.all flatP = true then some (!inP a xs) else none
    | none => none
  | .is => match a, b with
    | .bl x, .bl y => some (decide (x = y))
    | x, .non => some (match x with | .non => true | _ => false)
    | _, _ => none
  | .isnot => match a, b with
    | .bl x, .bl y => some (!decide (x = y))
    | x, .non => some (match x with | .non => false | _ => true)
    | _, _ => none
/-- an item by its place -/
def ixV (st : Store) : PV → PV → Option PV
  | .str z, .int i => if z.length ≤ sizeLine then (L2.atI z.cps.toList i).map fun c => .str ⟨#[c]⟩ else none
  | a, .int i => match seqA st a with
    | some xs => L2.atI xs i
    | none => none
  | _, _ => none
def cutP (xs : List PV) (lo hi : Option Int) : List PV := (xs.drop (HT.sIx xs.length 0 lo)).take (HT.sIx xs.length xs.length hi - HT.sIx xs.length 0 lo)
def slV (fr : Bool) (st : Store) (a : PV) (lo hi : Option Int) : Out PV := match a with
  | .tup xs => .ok (.tup (cutP xs lo hi)) st
  | a => match seqL st a with
    | some xs => newL fr (cutP xs lo hi) st
    | none => .bad

/-- built-in functions and types, called -/
inductive Bi where
  | len | abs | max2 | min2 | maxl | minl | sum | any | all | int | tuple | list | repr
def tyOfP : PV → Option String
  | .non => some "NoneType"
  | .bl _ => some "bool"
  | .int _ => some "int"
  | .str _ => some "str"
  | .tup _ => some "tuple"
  | .lsv _ => some "list"
  | .loc _ => some "list"
def biV (f : Bi) (fr : Bool) (st : Store) (as : List PV) : Out PV := match f, as with
  | .len, [.str s] => if s.length ≤ sizeLine then .ok (.int s.length) st else .bad
  | .len, [a] => match seqA st a with
    | some xs => .ok (.int xs.length) st
    | none => .bad
  | .abs, [.int i] => .ok (.int (if i < 0 then -i else i)) st
  | .max2, [.int i, .int j] => .ok (.int (if j > i then j else i)) st
  | .min2, [.int i, .int j] => .ok (.int (if j < i then j else i)) st
  | .max2, [.tup xs, .tup ys] => match ltP (.tup xs) (.tup ys) with
    | some b => .ok (if b = true then .tup ys else .tup xs) st
    | none => .bad
  | .min2, [.tup xs, .tup ys] => match ltP (.tup ys) (.tup xs) with
    | some b => .ok (if b = true then .tup ys else .tup xs) st
    | none => .bad
  | .maxl, [a] => match (seqL st a).bind intsOf with
    | some (n :: ns) => .ok (.int (ns.foldl max n)) st
    | _ => .bad
  | .minl, [a] => match (seqL st a).bind intsOf with
    | some (n :: ns) => .ok (.int (ns.foldl min n)) st
    | _ => .bad
  | .sum, [a] => match (seqL st a).bind intsOf with
    | some ns => .ok (.int ns.sum) st
    | _ => .bad
  | .any, [a] => match (seqL st a).bind blsOf with
    | some bs => .ok (.bl (bs.any id)) st
    | _ => .bad
  | .all, [a] => match (seqL st a).bind blsOf with
    | some bs => .ok (.bl (bs.all id)) st
    | _ => .bad
  | .int, [.int i] => .ok (.int i) st
  | .int, [.bl b] => .ok (.int (if b then 1 else 0)) st
  | .tuple, [.tup xs] => .ok (.tup xs) st
  | .tuple, [a] => match seqL st a with
    | some xs => .ok (.tup xs) st
    | none => .bad
  | .list, [a] => match seqA st a with
    | some xs => newL fr xs st
    | none => .bad
  | .repr, [a] => if a.free = true ∧ a.toD.showable = true ∧ a.toD.shown.length ≤ sizeLine ∧ a.toD.depth ≤ 64 then .ok (.str a.toD.shown) st else .bad
  | _, _ => .bad

/-- methods of lists that are written -/
inductive Me where
  | append | extend | pop
def meV (m : Me) (st : Store) (i : Nat) (as : List PV) : Out PV := match m, st[i]?, as with
  | .append, some xs, [y] => if xs.length < sizeLine then .ok .non (st.set i (xs ++ [y])) else .bad
  | .extend, some xs, [b] => match seqA st b with
    | some zs => if xs.length + zs.length ≤ sizeLine then .ok .non (st.set i (xs ++ zs)) else .bad
    | none => .bad
  | .pop, some xs, [] => match xs[xs.length - 1]? with
    | some y => .ok y (st.set i xs.dropLast)
    | none => .bad
  | _, _, _ => .bad

/-! ### expressions -/
/-- targets: a slot, or a tuple of targets -/
inductive Pt where
  | n (i : Nat)
  | t2 (a b : Pt)
  | t3 (a b c : Pt)
  | t4 (a b c d : Pt)
  | t5 (a b c d e : Pt)
def Pt.slots : Pt → List Nat
  | .n i => [i]
  | .t2 a b => a.slots ++ b.slots
  | .t3 a b c => a.slots ++ b.slots ++ c.slots
  | .t4 a b c d => a.slots ++ b.slots ++ c.slots ++ d.slots
  | .t5 a b c d e => a.slots ++ b.slots ++ c.slots ++ d.slots ++ e.slots
/-- a value stored to a target (a tuple is taken apart) -/
def asgP : Pt → PV → Env → Option Env
  | .n i, v, env => some (env.set i (some v))
  | .t2 a b, .tup [x, y], env => (asgP a x env).bind (asgP b y)
  | .t3 a b c, .tup [x, y, z], env => ((asgP a x env).bind (asgP b y)).bind (asgP c z)
  | .t4 a b c d, .tup [x, y, z, u], env => (((asgP a x env).bind (asgP b y)).bind (asgP c z)).bind (asgP d u)
  | .t5 a b c d e, .tup [x, y, z, u, v], env => ((((asgP a x env).bind (asgP b y)).bind (asgP c z)).bind (asgP d u)).bind (asgP e v)
  | _, _, _ => none

mutual
inductive Ex where
  /-- a constant -/
  | c (v : PV)
  /-- a name of the def -/
  | v (i : Nat)
  /-- a constant of the module -/
  | g (x : Str)
  | bin (o : Bop) (fr : Bool) (a b : Ex)
  | neg (a : Ex)
  | nt (a : Ex)
  | cmp (o : Cop) (a b : Ex)
  | chn (o o2 : Cop) (a b c : Ex)
  | ands (es : Exs)
  | ors (es : Exs)
  | ite (c a b : Ex)
  | tup (es : Exs)
  | lst (fr : Bool) (es : Exs)
  | ix (a b : Ex)
  /-- a slice: from, to; a part left out -/
  | slA (fr : Bool) (a lo hi : Ex)
  | slF (fr : Bool) (a lo : Ex)
  | slT (fr : Bool) (a hi : Ex)
  | call (f : Str) (es : Exs)
  /-- with keywords: the written ones from the left, then for each parameter its place among these -/
  | callk (f : Str) (es : Exs) (ks : Exs) (perm : List Nat)
  | bi (f : Bi) (fr : Bool) (es : Exs)
  | isi (e : Ex) (T : String)
  | me (m : Me) (i : Nat) (es : Exs)
  /-- a list comprehension, of one clause, of two: own the slots of its own names -/
  | lc (fr : Bool) (own : List Nat) (p : Pt) (it : Ix) (cs : Exs) (e : Ex)
  | lc2 (fr : Bool) (own : List Nat) (p : Pt) (it : Ix) (cs : Exs) (vs2 : List Nat) (p2 : Pt) (it2 : Ix) (cs2 : Exs) (e : Ex)
inductive Exs where
  | nil
  | cons (e : Ex) (es : Exs)
/-- what a loop walks -/
inductive Ix where
  | val (e : Ex)
  | rng1 (a : Ex)
  | rng2 (a b : Ex)
  | rng3 (a b : Ex) (c : Int)
  | zip (a b : Ex)
  | enm (a : Ex)
end
def Exs.length : Exs → Nat
  | .nil => 0
  | .cons _ es => es.length + 1

/-- what stands still while it is walked -/
abbrev Watch := List (Nat × List PV)
def watchOk (w : Watch) (st : Store) : Prop := ∀ p ∈ w, st[p.1]? = some p.2
def watchOf : PV → List PV → Watch
  | .loc i, xs => [(i, xs)]
  | _, _ => []
def rngL (lo : Int) (c : Int) (n : Nat) : List PV := (List.range n).map fun i => .int (lo + (i : Nat) * c)
/-- the ends of a range: told by a word of its own, so that nobody reckons with it by chance -/
def in62 (i : Int) : Prop := -(2 ^ 62) ≤ i ∧ i < 2 ^ 62
def in60 (i : Int) : Prop := -(2 ^ 60) ≤ i ∧ i < 2 ^ 60
open Classical in
noncomputable def rngV1 (st : Store) (x : PV) : Out (List PV × Watch) := match x with
  | .int j => if in62 j then .ok (rngL 0 1 j.toNat, []) st else .bad
  | _ => .bad
open Classical in
noncomputable def rngV2 (st : Store) (x y : PV) : Out (List PV × Watch) := match x, y with
  | .int i, .int j => if in62 i ∧ in62 j then .ok (rngL i 1 (j - i).toNat, []) st else .bad
  | _, _ => .bad
open Classical in
noncomputable def rngV3 (c : Int) (st : Store) (x y : PV) : Out (List PV × Watch) := match x, y with
  | .int i, .int j => if c = -1 ∧ in60 i ∧ in60 j then .ok (rngL i c (i - j).toNat, []) st else .bad
  | _, _ => .bad
def wipeE (env : Env) : List Nat → Env
  | [] => env
  | v :: vs => (wipeE env vs).set v none

def zipL (st : Store) (a b : PV) : Out (List PV × Watch) := match seqL st a, seqL st b with
  | some xs, some ys => .ok ((xs.zip ys).map fun p => .tup [p.1, p.2], watchOf a xs ++ watchOf b ys) st
  | _, _ => .bad
def zipV (st : Store) : PV → PV → Out (List PV × Watch)
  | .tup xs, .tup ys => .ok ((xs.zip ys).map fun p => .tup [p.1, p.2], []) st
  | a, b => zipL st a b
structure Ctx where
  fn : Str → List PV → Store → Out PV
  gl : Str → Option PV

open Classical in
/-- a comprehension's turns -/
noncomputable def compF (w : Watch) (f : PV → Store → Out (List PV)) : List PV → List PV → Store → Out (List PV)
  | [], acc, st => if watchOk w st then .ok acc st else .bad
  | x :: xs, acc, st => if watchOk w st then (f x st).bind fun ys st1 => if acc.length + ys.length ≤ sizeLine then compF w f xs (acc ++ ys) st1 else .bad else .bad

mutual
noncomputable def evE (C : Ctx) : Ex → Env → Store → Out PV
  | .c v, _, st => .ok v st
  | .v i, env, st => match env[i]? with
    | some (some v) => .ok v st
    | _ => .bad
  | .g x, _, st => .of (C.gl x) st
  | .bin o fr a b, env, st => (evE C a env st).bind fun x st1 => (evE C b env st1).bind fun y st2 => binV o fr st2 x y
  | .neg a, env, st => (evE C a env st).bind fun x st1 => match x with
    | .int i => .ok (.int (-i)) st1
    | _ => .bad
  | .nt a, env, st => (evE C a env st).bind fun x st1 => match truthy st1 x with
    | some b => .ok (.bl (!b)) st1
    | none => .bad
  | .cmp o a b, env, st => (evE C a env st).bind fun x st1 => (evE C b env st1).bind fun y st2 => (Out.of (cmpV o st2 x y) st2).bind fun b st3 => .ok (.bl b) st3
  | .chn o o2 a b c, env, st => (evE C a env st).bind fun x st1 => (evE C b env st1).bind fun y st2 => (Out.of (cmpV o st2 x y) st2).bind fun k st3 =>
      if k = true then (evE C c env st3).bind fun z st4 => (Out.of (cmpV o2 st4 y z) st4).bind fun b st5 => .ok (.bl b) st5 else .ok (.bl false) st3
  | .ands es, env, st => evAnd C es env st
  | .ors es, env, st => evOr C es env st
  | .ite c a b, env, st => (evE C c env st).bind fun x st1 => match truthy st1 x with
    | some true => evE C a env st1
    | some false => evE C b env st1
    | none => .bad
  | .tup es, env, st => (evEs C es env st).bind fun xs st1 => if xs.length ≤ sizeLine then .ok (.tup xs) st1 else .bad
  | .lst fr es, env, st => (evEs C es env st).bind fun xs st1 => if xs.length ≤ sizeLine then newL fr xs st1 else .bad
  | .ix a b, env, st => (evE C a env st).bind fun x st1 => (evE C b env st1).bind fun y st2 => .of (ixV st2 x y) st2
  | .slA fr a lo hi, env, st => (evE C a env st).bind fun x st1 => (evE C lo env st1).bind fun y st2 => (evE C hi env st2).bind fun z st3 => match y, z with
    | .int i, .int j => slV fr st3 x (some i) (some j)
    | _, _ => .bad
  | .slF fr a lo, env, st => (evE C a env st).bind fun x st1 => (evE C lo env st1).bind fun y st2 => match y with
    | .int i => slV fr st2 x (some i) none
    | _ => .bad
  | .slT fr a hi, env, st => (evE C a env st).bind fun x st1 => (evE C hi env st1).bind fun y st2 => match y with
    | .int i => slV fr st2 x none (some i)
    | _ => .bad
  | .call f es, env, st => (evEs C es env st).bind fun xs st1 => C.fn f xs st1
  | .callk f es ks perm, env, st => (evEs C es env st).bind fun xs st1 => (evEs C ks env st1).bind fun ys st2 => match perm.mapM fun i => (xs ++ ys)[i]? with
    | some zs => C.fn f zs st2
    | none => .bad
  | .bi f fr es, env, st => (evEs C es env st).bind fun xs st1 => biV f fr st1 xs
  | .isi e T, env, st => (evE C e env st).bind fun x st1 => match (tyOfP x).bind fun U => L2.kitB U T with
    | some b => .ok (.bl b) st1
    | none => .bad
  | .me m i es, env, st => match env[i]? with
    | some (some (.loc l)) => (evEs C es env st).bind fun ys st2 => meV m st2 l ys
    | _ => .bad
  | .lc fr own p it cs e, env, st => (evIx C it env st).bind fun xw st1 => (compF xw.2 (fun x st => match asgP p x (wipeE env own) with
      | some env1 => (evTests C cs env1 st).quiet.bind fun b st1 => if b = true then (evE C e env1 st1).quiet.bind fun y st2 => .ok [y] st2 else .ok [] st1
      | none => .bad) xw.1 [] st1).bind fun ys st2 => newL fr ys st2
  | .lc2 fr own p it cs vs2 p2 it2 cs2 e, env, st => (evIx C it env st).bind fun xw st1 => (compF xw.2 (fun x st => match asgP p x (wipeE env own) with
      | some env1 => (evTests C cs env1 st).quiet.bind fun b st1 => if b = true then (evIx C it2 env1 st1).quiet.bind fun xw2 st2 => compF xw2.2 (fun x2 st => match asgP p2 x2 (wipeE env1 vs2) with
          | some env2 => (evTests C cs2 env2 st).quiet.bind fun b st1 => if b = true then (evE C e env2 st1).quiet.bind fun y st2 => .ok [y] st2 else .ok [] st1
          | none => .bad) xw2.1 [] st2 else .ok [] st1
      | none => .bad) xw.1 [] st1).bind fun ys st2 => newL fr ys st2
noncomputable def evEs (C : Ctx) : Exs → Env → Store → Out (List PV)
  | .nil, _, st => .ok [] st
  | .cons e es, env, st => (evE C e env st).bind fun x st1 => (evEs C es env st1).bind fun xs st2 => .ok (x :: xs) st2
noncomputable def evAnd (C : Ctx) : Exs → Env → Store → Out PV
  | .nil, _, _ => .bad
  | .cons e .nil, env, st => evE C e env st
  | .cons e es, env, st => (evE C e env st).bind fun x st1 => match truthy st1 x with
    | some true => evAnd C es env st1
    | some false => .ok x st1
    | none => .bad
noncomputable def evOr (C : Ctx) : Exs → Env → Store → Out PV
  | .nil, _, _ => .bad
  | .cons e .nil, env, st => evE C e env st
  | .cons e es, env, st => (evE C e env st).bind fun x st1 => match truthy st1 x with
    | some true => .ok x st1
    | some false => evOr C es env st1
    | none => .bad
/-- a comprehension's tests: none or one -/
noncomputable def evTests (C : Ctx) : Exs → Env → Store → Out Bool
  | .nil, _, st => .ok true st
  | .cons e _, env, st => (evE C e env st).bind fun x st1 => .of (truthy st1 x) st1
noncomputable def evIx (C : Ctx) : Ix → Env → Store → Out (List PV × Watch)
  | .val e, env, st => (evE C e env st).bind fun x st1 => match seqA st1 x with
    | some xs => .ok (xs, watchOf x xs) st1
    | none => .bad
  | .rng1 a, env, st => (evE C a env st).bind fun x st1 => rngV1 st1 x
  | .rng2 a b, env, st => (evE C a env st).bind fun x st1 => (evE C b env st1).bind fun y st2 => rngV2 st2 x y
  | .rng3 a b c, env, st => (evE C a env st).bind fun x st1 => (evE C b env st1).bind fun y st2 => rngV3 c st2 x y
  | .zip a b, env, st => (evE C a env st).bind fun x st1 => (evE C b env st1).bind fun y st2 => zipV st2 x y
  | .enm a, env, st => (evE C a env st).bind fun x st1 => match seqL st1 x with
    | some xs => .ok (xs.zipIdx.map fun p => .tup [.int (p.2 : Nat), p.1], watchOf x xs) st1
    | none => .bad
end

/-! ### statements -/
/-- a op= b -/
def augV (o : Bop) : PV → PV → Option PV
  | .int a, .int b => match o with
    | .add => some (.int (a + b))
    | .sub => some (.int (a - b))
    | _ => none
  | .str a, .str b => match o with
    | .add => if a.length + b.length ≤ sizeLine then some (.str (a ++ b)) else none
    | _ => none
  | _, _ => none
/-- o[i], o a list that is written -/
def locV (st : Store) : PV → PV → Option PV
  | .loc l, .int k => match st[l]? with
    | some xs => L2.atI xs k
    | none => none
  | _, _ => none
/-- o[i] = x -/
def setV (st : Store) : PV → PV → PV → Option Store
  | .loc l, .int k, x => match st[l]? with
    | some xs => (L2.ixN xs.length k).map fun j => st.set l (xs.set j x)
    | none => none
  | _, _, _ => none
inductive Fl where
  | nx (env : Env)
  | bk (env : Env)
  | ct (env : Env)
  | rt (v : PV)
/-- what is stored to: names, or an item of a list -/
inductive Ta where
  | p (p : Pt)
  | sub (o i : Ex)
mutual
inductive Sx where
  | expr (e : Ex)
  | asg (t : Ta) (e : Ex)
  | aug (i : Nat) (o : Bop) (e : Ex)
  /-- o[i] op= e, a list that is written -/
  | augS (o i : Ex) (op : Bop) (e : Ex)
  | iff (c : Ex) (a b : Sxs)
  | fr (p : Pt) (it : Ix) (b : Sxs)
  | wh (c : Ex) (b : Sxs)
  | ret (e : Ex)
  | retn
  | brk
  | cont
  | pass
  /-- a raise that is never reached -/
  | nev
inductive Sxs where
  | nil
  | cons (s : Sx) (r : Sxs)
end
open Classical in
noncomputable def loopF (w : Watch) (f : PV → Env → Store → Out Fl) : List PV → Env → Store → Out Fl
  | [], env, st => if watchOk w st then .ok (.nx env) st else .bad
  | x :: xs, env, st => if watchOk w st then (f x env st).bind fun r st1 => match r with
    | .nx e => loopF w f xs e st1
    | .ct e => loopF w f xs e st1
    | .bk e => .ok (.nx e) st1
    | .rt v => .ok (.rt v) st1 else .bad
def whN (c : Env → Store → Out Bool) (f : Env → Store → Out Fl) : Nat → Env → Store → Out Fl
  | 0, _, _ => .bad
  | n + 1, env, st => (c env st).bind fun t st1 => if t = true then (f env st1).bind fun r st2 => match r with
    | .nx e => whN c f n e st2
    | .ct e => whN c f n e st2
    | .bk e => .ok (.nx e) st2
    | .rt v => .ok (.rt v) st2 else .ok (.nx env) st1
def wfuel : Nat := 1000000000
noncomputable def evC (C : Ctx) (c : Ex) (env : Env) (st : Store) : Out Bool := (evE C c env st).bind fun x st1 => .of (truthy st1 x) st1
mutual
noncomputable def evS (C : Ctx) : Sx → Env → Store → Out Fl
  | .expr e, env, st => (evE C e env st).bind fun _ st1 => .ok (.nx env) st1
  | .asg (.p p) e, env, st => (evE C e env st).bind fun x st1 => match asgP p x env with
    | some env1 => .ok (.nx env1) st1
    | none => .bad
  | .asg (.sub o i) e, env, st => (evE C e env st).bind fun x st1 => (evE C o env st1).bind fun y st2 => (evE C i env st2).bind fun z st3 => match setV st3 y z x with
    | some st4 => .ok (.nx env) st4
    | none => .bad
  | .aug i o e, env, st => match env[i]? with
    | some (some v) => (evE C e env st).bind fun x st1 => match augV o v x with
      | some z => .ok (.nx (env.set i (some z))) st1
      | none => .bad
    | _ => .bad
  | .augS o i op e, env, st => (evE C o env st).bind fun x st1 => (evE C i env st1).bind fun y st2 => match locV st2 x y with
    | some v => (evE C e env st2).bind fun z st3 => match augV op v z with
      | some u => match setV st3 x y u with
        | some st4 => .ok (.nx env) st4
        | none => .bad
      | none => .bad
    | none => .bad
  | .iff c a b, env, st => (evC C c env st).bind fun t st1 => if t = true then evSs C a env st1 else evSs C b env st1
  | .fr p it b, env, st => (evIx C it env st).bind fun xw st1 => loopF xw.2 (fun x env st => match asgP p x env with
    | some env1 => evSs C b env1 st
    | none => .bad) xw.1 env st1
  | .wh c b, env, st => whN (evC C c) (evSs C b) wfuel env st
  | .ret e, env, st => (evE C e env st).bind fun x st1 => .ok (.rt x) st1
  | .retn, _, st => .ok (.rt .non) st
  | .brk, env, st => .ok (.bk env) st
  | .cont, env, st => .ok (.ct env) st
  | .pass, env, st => .ok (.nx env) st
  | .nev, _, _ => .bad
noncomputable def evSs (C : Ctx) : Sxs → Env → Store → Out Fl
  | .nil, env, st => .ok (.nx env) st
  | .cons s r, env, st => (evS C s env st).bind fun f st1 => match f with
    | .nx env1 => evSs C r env1 st1
    | .bk e => .ok (.bk e) st1
    | .ct e => .ok (.ct e) st1
    | .rt v => .ok (.rt v) st1
end

/-! ### calls -/
structure Fn where
  ps : List Str
  N : List Str
  body : Sxs
  /-- it hands back a list of its own that the caller may write -/
  mt : Bool
def locs : List PV → List Nat
  | [] => []
  | .loc i :: r => if i ∈ locs r then locs r else i :: locs r
  | _ :: r => locs r
/-- arguments in the callee's own numbers -/
def ren (ls : List Nat) : PV → PV
  | .loc i => .loc (ls.idxOf i)
  | v => v
def argOk : PV → Bool
  | .loc _ => true
  | v => v.free
/-- the callee's store: the lists that it is handed, flat ones -/
def subSt (st : Store) : List Nat → Option Store
  | [] => some []
  | i :: r => match st[i]? with
    | some xs => if freeAll xs = true then (subSt st r).map (xs :: ·) else none
    | none => none
def putSt (st : Store) : List Nat → Store → Store
  | i :: r, xs :: s => (putSt st r s).set i xs
  | _, _ => st
def flatSt (st : Store) : Bool := st.all freeAll
/-- a value handed back, its own lists frozen -/
def frz (m : Nat) (st : Store) : Nat → PV → Option PV
  | 0, v => if v.free = true then some v else none
  | k + 1, v => if v.free = true then some v else match v with
    | .loc i => if i < m then none else match st[i]? with
      | some xs => (xs.mapM (frz m st k)).map .lsv
      | none => none
    | .tup xs => (xs.mapM (frz m st k)).map .tup
    | .lsv xs => (xs.mapM (frz m st k)).map .lsv
    | _ => none
noncomputable def runB (C : Ctx) (fn : Fn) (args : List PV) (st : Store) : Out PV := (evSs C fn.body (args.map some ++ List.replicate (fn.N.length - args.length) none) st).bind fun f st1 => match f with
  | .rt v => .ok v st1
  | .nx _ => .ok .non st1
  | _ => .bad
/-- behind a call -/
def backV (mt : Bool) (ls : List Nat) (st : Store) (v : PV) (s2 : Store) : Out PV :=
  let m := ls.length
  if m ≤ s2.length ∧ flatSt (s2.take m) = true then
    let st2 := putSt st ls (s2.take m)
    if mt = true then match v with
      | .loc j => match s2[j]? with
        | some xs => if m ≤ j ∧ freeAll xs = true then .ok (.loc st2.length) (st2 ++ [xs]) else .bad
        | none => .bad
      | _ => .bad
    else match frz m s2 64 v with
      | some v' => .ok v' st2
      | none => .bad
  else .bad
noncomputable def callF (tb : List (Str × Fn)) (gl : Str → Option PV) : Nat → Str → List PV → Store → Out PV
  | 0, _, _, _ => .bad
  | n + 1, f, args, st => match tb.lookup f with
    | none => .bad
    | some fn => if args.length = fn.ps.length ∧ args.all argOk = true then match subSt st (locs args) with
        | some sub => match runB ⟨callF tb gl n, gl⟩ fn (args.map (ren (locs args))) sub with
          | .ok v s2 => backV fn.mt (locs args) st v s2
          | _ => .bad
        | none => .bad
      else .bad
end L2.Iv

/-! IvB: how the abstract heap bears the data. Own work. -/
namespace L2.Iv
open PySem PySem.Spec PyProof.Rows

/-- a list that nobody writes any more -/
def SqF (K : PySem.W.Frag) (F : List Addr) (H : Hp) (r : List Addr) (a : Addr) (vs : List V) : Prop :=
  (H a = some (.lst vs) ∧ a ∉ r ∧ a ∉ F) ∨ (∃ o, H a = some (.frz o (.lst vs))) ∨
    ∃ (o : Obj) (its : Array Value) (n : Nat), K.lookup a = some o ∧ o.cls = .type "list" ∧ o.dict = none ∧ o.data = .seq its n ∧ its.size ≤ sizeLine ∧ Vals vs its.toList
theorem SqF.seq {K : PySem.W.Frag} {F : List Addr} {H : Hp} {r : List Addr} {a : Addr} {vs : List V} (h : SqF K F H r a vs) : SqL K H a vs := by
  rcases h with ⟨h, _⟩ | h | h
  · exact .inl (.inl h)
  · exact .inl (.inr h)
  · exact .inr h

mutual
inductive Rep (K : PySem.W.Frag) (F : List Addr) (H : Hp) (r : List Addr) : V → PV → Prop
  | non : Rep K F H r .non .non
  | bl (b : Bool) : Rep K F H r (.bl b) (.bl b)
  | int (i : Int) : Rep K F H r (.int i) (.int i)
  | str (x : Str) : Rep K F H r (.str x) (.str x)
  | lsv {a : Addr} {vs : List V} {ds : List PV} : SqF K F H r a vs → Reps K F H r vs ds → Rep K F H r (.ref a) (.lsv ds)
  | tup {a : Addr} {vs : List V} {ds : List PV} : SqT K H a vs → Reps K F H r vs ds → Rep K F H r (.ref a) (.tup ds)
  | loc {a : Addr} {i : Nat} : r[i]? = some a → Rep K F H r (.ref a) (.loc i)
inductive Reps (K : PySem.W.Frag) (F : List Addr) (H : Hp) (r : List Addr) : List V → List PV → Prop
  | nil : Reps K F H r [] []
  | cons {v : V} {vs : List V} {d : PV} {ds : List PV} : Rep K F H r v d → Reps K F H r vs ds → Reps K F H r (v :: vs) (d :: ds)
end

structure Rel (K : PySem.W.Frag) (F : List Addr) (H : Hp) (r : List Addr) (st : Store) : Prop where
  len : r.length = st.length
  nd : r.Nodup
  cells : ∀ (i : Nat) (a : Addr) (xs : List PV), r[i]? = some a → st[i]? = some xs → ∃ vs, H a = some (.lst vs) ∧ Reps K F H r vs xs
  apart : ∀ a ∈ r, a ∉ F
  fs : ∀ a ∈ F, ∃ vs : List V, H a = some (.lst vs)

/-- the state later on: more lists, what is no list of ours as it was -/
structure Aft (r : List Addr) (H : Hp) (r' : List Addr) (H' : Hp) : Prop where
  pre : ∃ r2, r' = r ++ r2
  keep : ∀ a o, H a = some o → a ∉ r → H' a = some o ∧ a ∉ r'

section
variable {K : PySem.W.Frag} {F : List Addr} {H H' H1 H2 : Hp} {r r' r1 r2 : List Addr} {st st' : Store} {v : V} {p : PV} {vs : List V} {ps : List PV}

theorem Aft.refl : Aft r H r H := ⟨⟨[], by simp⟩, fun _ _ e n => ⟨e, n⟩⟩
theorem Aft.trans (a : Aft r H r1 H1) (b : Aft r1 H1 r2 H2) : Aft r H r2 H2 := by
  obtain ⟨x, e1⟩ := a.pre
  obtain ⟨y, e2⟩ := b.pre
  refine ⟨⟨x ++ y, by rw [e2, e1, List.append_assoc]⟩, fun c o e n => ?_⟩
  obtain ⟨q1, q2⟩ := a.keep c o e n
  exact b.keep c o q1 q2
theorem Aft.get {i : Nat} {a : Addr} (x : Aft r H r' H') (e : r[i]? = some a) : r'[i]? = some a := by
  obtain ⟨y, e1⟩ := x.pre
  rw [e1, List.getElem?_append_left (List.getElem?_eq_some_iff.mp e).1]
  exact e

theorem Rel.isl (R : Rel K F H r st) {a : Addr} (h : a ∈ r) : ∃ vs, H a = some (.lst vs) := by
  obtain ⟨i, hi, e⟩ := List.mem_iff_getElem.mp h
  have hi2 : i < st.length := by rw [← R.len]; exact hi
  obtain ⟨vs, q, _⟩ := R.cells i a st[i] (by rw [List.getElem?_eq_getElem hi, e]) (List.getElem?_eq_getElem hi2)
  exact ⟨vs, q⟩
theorem Rel.notin (R : Rel K F H r st) {a : Addr} {o : HO} (h : H a = some o) (n : ∀ vs, o ≠ .lst vs) : a ∉ r := fun m => by
  obtain ⟨vs, e⟩ := R.isl m
  rw [h] at e; cases e; exact n vs rfl

theorem SqT.aft {a : Addr} (R : Rel K F H r st) (A : Aft r H r' H') (h : SqT K H a vs) : SqT K H' a vs := by
  rcases h with (h | ⟨o, h⟩) | h
  · exact .inl (.inl (A.keep a _ h (R.notin h (fun _ z => nomatch z))).1)
  · exact .inl (.inr ⟨o, (A.keep a _ h (R.notin h (fun _ z => nomatch z))).1⟩)
  · exact .inr h
theorem SqF.aft {a : Addr} (R : Rel K F H r st) (A : Aft r H r' H') (h : SqF K F H r a vs) : SqF K F H' r' a vs := by
  rcases h with ⟨h, n1, n2⟩ | ⟨o, h⟩ | h
  · exact .inl ⟨(A.keep a _ h n1).1, (A.keep a _ h n1).2, n2⟩
  · exact .inr (.inl ⟨o, (A.keep a _ h (R.notin h (fun _ z => nomatch z))).1⟩)
  · exact .inr (.inr h)
mutual
theorem Rep.aft (R : Rel K F H r st) (A : Aft r H r' H') : ∀ {v : V} {p : PV}, Rep K F H r v p → Rep K F H' r' v p
  | _, _, .non => .non
  | _, _, .bl b => .bl b
  | _, _, .int i => .int i
  | _, _, .str x => .str x
  | _, _, .lsv h q => .lsv (h.aft R A) (Reps.aft R A q)
  | _, _, .tup h q => .tup (SqT.aft R A h) (Reps.aft R A q)
  | _, _, .loc e => .loc (A.get e)
theorem Reps.aft (R : Rel K F H r st) (A : Aft r H r' H') : ∀ {vs : List V} {ps : List PV}, Reps K F H r vs ps → Reps K F H' r' vs ps
  | _, _, .nil => .nil
  | _, _, .cons h q => .cons (Rep.aft R A h) (Reps.aft R A q)
end
theorem Reps.length : ∀ {vs : List V} {ps : List PV}, Reps K F H r vs ps → vs.length = ps.length
  | _, _, .nil => rfl
  | _, _, .cons _ q => congrArg (· + 1) q.length
theorem Reps.get : ∀ {vs : List V} {ps : List PV} {i : Nat} {v : V}, Reps K F H r vs ps → vs[i]? = some v → ∃ p, ps[i]? = some p ∧ Rep K F H r v p
  | _, _, _, _, .nil, e => by simp at e
  | _, _, 0, _, .cons h q, e => by simp at e; subst e; exact ⟨_, rfl, h⟩
  | _, _, i + 1, v, .cons h q, e => by
    obtain ⟨p, h1, h2⟩ := Reps.get (i := i) (v := v) q (by simpa using e)
    exact ⟨p, by simpa using h1, h2⟩
theorem Reps.get2 : ∀ {vs : List V} {ps : List PV} {i : Nat} {p : PV}, Reps K F H r vs ps → ps[i]? = some p → ∃ v, vs[i]? = some v ∧ Rep K F H r v p
  | _, _, _, _, .nil, e => by simp at e
  | _, _, 0, _, .cons h q, e => by simp at e; subst e; exact ⟨_, rfl, h⟩
  | _, _, i + 1, v, .cons h q, e => by
    obtain ⟨p, h1, h2⟩ := Reps.get2 (i := i) (p := v) q (by simpa using e)
    exact ⟨p, by simpa using h1, h2⟩
theorem Reps.append : ∀ {vs ws : List V} {ps qs : List PV}, Reps K F H r vs ps → Reps K F H r ws qs → Reps K F H r (vs ++ ws) (ps ++ qs)
  | _, _, _, _, .nil, s => s
  | _, _, _, _, .cons h q, s => .cons h (q.append s)
theorem Reps.take : ∀ {vs : List V} {ps : List PV} (n : Nat), Reps K F H r vs ps → Reps K F H r (vs.take n) (ps.take n)
  | _, _, 0, _ => .nil
  | _, _, _ + 1, .nil => .nil
  | _, _, n + 1, .cons h q => .cons h (q.take n)
theorem Reps.drop : ∀ {vs : List V} {ps : List PV} (n : Nat), Reps K F H r vs ps → Reps K F H r (vs.drop n) (ps.drop n)
  | _, _, 0, q => q
  | _, _, _ + 1, .nil => .nil
  | _, _, n + 1, .cons _ q => q.drop n
theorem Reps.set {v : V} {p : PV} (h : Rep K F H r v p) : ∀ {vs : List V} {ps : List PV} (i : Nat), Reps K F H r vs ps → Reps K F H r (vs.set i v) (ps.set i p)
  | _, _, _, .nil => .nil
  | _, _, 0, .cons _ q => .cons h q
  | _, _, i + 1, .cons h2 q => .cons h2 (q.set h i)
theorem Reps.dropLast {vs : List V} {ps : List PV} (h : Reps K F H r vs ps) : Reps K F H r vs.dropLast ps.dropLast := by
  rw [List.dropLast_eq_take, List.dropLast_eq_take, h.length]
  exact h.take _
theorem Reps.rep {vs : List V} {ps : List PV} (h : Reps K F H r vs ps) : ∀ k : Nat, Reps K F H r (List.replicate k vs).flatten (List.replicate k ps).flatten
  | 0 => .nil
  | k + 1 => by
    rw [List.replicate_succ, List.flatten_cons, List.replicate_succ, List.flatten_cons]
    exact h.append (h.rep k)
theorem Reps.none_of {vs : List V} {ps : List PV} {i : Nat} (h : Reps K F H r vs ps) (e : ps[i]? = none) : vs[i]? = none := by
  have := h.length
  rw [List.getElem?_eq_none_iff] at e ⊢
  omega

/-! ### new things -/
theorem Aft.new {a : Addr} {o : HO} (h : H a = none) : Aft r H r (upd H a o) := ⟨⟨[], by simp⟩, fun b u e n => ⟨by rw [upd_ne (ne_of_none e h)]; exact e, n⟩⟩
theorem Rel.new (R : Rel K F H r st) {a : Addr} {o : HO} (h : H a = none) : Rel K F (upd H a o) r st := by
  refine ⟨R.len, R.nd, fun i b xs e1 e2 => ?_, R.apart, fun b hb => ?_⟩
  · obtain ⟨vs, q1, q2⟩ := R.cells i b xs e1 e2
    exact ⟨vs, by rw [upd_ne (ne_of_none q1 h)]; exact q1, Reps.aft R (Aft.new h) q2⟩
  · obtain ⟨vs, q⟩ := R.fs b hb
    exact ⟨vs, by rw [upd_ne (ne_of_none q h)]; exact q⟩
theorem Rel.fresh (R : Rel K F H r st) {a : Addr} (h : H a = none) : a ∉ r ∧ a ∉ F := by
  refine ⟨fun m => ?_, fun m => ?_⟩
  · obtain ⟨vs, e⟩ := R.isl m
    rw [h] at e; cases e
  · obtain ⟨vs, e⟩ := R.fs a m
    rw [h] at e; cases e
/-- a new tuple -/
theorem Rep.newT (R : Rel K F H r st) {a : Addr} (h : H a = none) (q : Reps K F H r vs ps) : Rep K F (upd H a (.tup vs)) r (.ref a) (.tup ps) :=
  .tup (.inl (.inl upd_same)) (Reps.aft R (Aft.new h) q)
/-- a new list that nobody will write -/
theorem Rep.newF (R : Rel K F H r st) {a : Addr} (h : H a = none) (q : Reps K F H r vs ps) : Rep K F (upd H a (.lst vs)) r (.ref a) (.lsv ps) :=
  .lsv (.inl ⟨upd_same, (R.fresh h).1, (R.fresh h).2⟩) (Reps.aft R (Aft.new h) q)
/-- a new list to be written -/
theorem Aft.newL {a : Addr} {o : HO} (h : H a = none) : Aft r H (r ++ [a]) (upd H a o) := ⟨⟨[a], rfl⟩, fun b u e n => by
  have ne := ne_of_none e h
  exact ⟨by rw [upd_ne ne]; exact e, by simp [n, ne]⟩⟩
theorem Rel.newL (R : Rel K F H r st) {a : Addr} (h : H a = none) (q : Reps K F H r vs ps) : Rel K F (upd H a (.lst vs)) (r ++ [a]) (st ++ [ps]) := by
  obtain ⟨n1, n2⟩ := R.fresh h
  have A : Aft r H (r ++ [a]) (upd H a (.lst vs)) := Aft.newL h
  refine ⟨by simp [R.len], ?_, fun i b xs e1 e2 => ?_, fun b hb => ?_, fun b hb => ?_⟩
  · rw [List.nodup_append]
    refine ⟨R.nd, by simp, fun x hx y hy => ?_⟩
    rw [List.mem_singleton] at hy
    rintro rfl
    exact n1 (hy ▸ hx)
  · by_cases hi : i < r.length
    · rw [List.getElem?_append_left hi] at e1
      rw [List.getElem?_append_left (by rw [← R.len]; exact hi)] at e2
      obtain ⟨ws, q1, q2⟩ := R.cells i b xs e1 e2
      exact ⟨ws, by rw [upd_ne (ne_of_none q1 h)]; exact q1, Reps.aft R A q2⟩
    · have hl := R.len
      rw [List.getElem?_append_right (by omega)] at e1
      rw [List.getElem?_append_right (by omega)] at e2
      have hz : i - r.length = 0 := by
        have := (List.getElem?_eq_some_iff.mp e1).1
        simp at this; omega
      rw [hz] at e1
      rw [← hl, hz] at e2
      simp at e1 e2
      subst e1; subst e2
      exact ⟨vs, upd_same, Reps.aft R A q⟩
  · rcases List.mem_append.mp hb with hb | hb
    · exact R.apart b hb
    · rw [List.mem_singleton] at hb; subst hb; exact n2
  · obtain ⟨ws, e⟩ := R.fs b hb
    exact ⟨ws, by rw [upd_ne (ne_of_none e h)]; exact e⟩
/-- a list of ours written -/
theorem Aft.write {a : Addr} {o : HO} (h : a ∈ r) : Aft r H r (upd H a o) := ⟨⟨[], by simp⟩, fun b u e n => ⟨by
  rw [upd_ne (by rintro rfl; exact n h)]; exact e, n⟩⟩
theorem Rel.write (R : Rel K F H r st) {a : Addr} {i : Nat} (e : r[i]? = some a) (q : Reps K F H r vs ps) : Rel K F (upd H a (.lst vs)) r (st.set i ps) := by
  have ha : a ∈ r := List.mem_of_getElem? e
  have A : Aft r H r (upd H a (.lst vs)) := Aft.write ha
  refine ⟨by simp [R.len], R.nd, fun j b xs e1 e2 => ?_, R.apart, fun b hb => ?_⟩
  · by_cases hj : j = i
    · subst hj
      rw [e] at e1; cases e1
      have hl : j < st.length := by rw [← R.len]; exact (List.getElem?_eq_some_iff.mp e).1
      rw [List.getElem?_set_self hl] at e2
      cases e2
      exact ⟨vs, upd_same, Reps.aft R A q⟩
    · rw [List.getElem?_set_ne (Ne.symm hj)] at e2
      obtain ⟨ws, q1, q2⟩ := R.cells j b xs e1 e2
      have hb : b ≠ a := by
        rintro rfl
        exact hj (nd_ix R.nd e1 e)
      exact ⟨ws, by rw [upd_ne hb]; exact q1, Reps.aft R A q2⟩
  · obtain ⟨ws, e2⟩ := R.fs b hb
    have hb : b ≠ a := by
      rintro rfl
      exact R.apart b ha hb
    exact ⟨ws, by rw [upd_ne hb]; exact e2⟩
theorem Rel.cell (R : Rel K F H r st) {i : Nat} {a : Addr} (e : r[i]? = some a) : ∃ xs vs, st[i]? = some xs ∧ H a = some (.lst vs) ∧ Reps K F H r vs xs := by
  have hi : i < st.length := by rw [← R.len]; exact (List.getElem?_eq_some_iff.mp e).1
  obtain ⟨vs, h1, h2⟩ := R.cells i a st[i] e (List.getElem?_eq_getElem hi)
  exact ⟨st[i], vs, List.getElem?_eq_getElem hi, h1, h2⟩

/-! ### lists and tuples that are read -/
theorem Rep.seqL (R : Rel K F H r st) {xs : List PV} (h : Rep K F H r v p) (e : seqL st p = some xs) : ∃ a vs, v = .ref a ∧ SqL K H a vs ∧ Reps K F H r vs xs := by
  cases h with
  | lsv h q => cases e; exact ⟨_, _, rfl, h.seq, q⟩
  | loc h =>
    obtain ⟨ys, vs, e1, e2, e3⟩ := R.cell h
    have e : st[_]? = some xs := e
    rw [e1] at e; cases e
    exact ⟨_, vs, rfl, .of e2, e3⟩
  | _ => cases e
theorem Rep.seqA (R : Rel K F H r st) {xs : List PV} (h : Rep K F H r v p) (e : seqA st p = some xs) : ∃ a vs, v = .ref a ∧ (SqL K H a vs ∨ SqT K H a vs) ∧ Reps K F H r vs xs := by
  cases h with
  | lsv h q => cases e; exact ⟨_, _, rfl, .inl h.seq, q⟩
  | tup h q => cases e; exact ⟨_, _, rfl, .inr h, q⟩
  | loc h =>
    obtain ⟨ys, vs, e1, e2, e3⟩ := R.cell h
    have e : st[_]? = some xs := e
    rw [e1] at e; cases e
    exact ⟨_, vs, rfl, .inl (.of e2), e3⟩
  | _ => cases e
mutual
theorem Rep.dp : ∀ {v : V} {p : PV}, Rep K F H r v p → p.free = true → Dp K H v p.toD
  | _, _, .non, _ => .non
  | _, _, .bl b, _ => .bl b
  | _, _, .int i, _ => .int i
  | _, _, .str x, _ => .str x
  | _, _, .lsv h q, f => .lst h.seq (Reps.dp q (by simpa [PV.free] using f))
  | _, _, .tup h q, f => .tup h (Reps.dp q (by simpa [PV.free] using f))
  | _, _, .loc e, f => by simp [PV.free] at f
theorem Reps.dp : ∀ {vs : List V} {ps : List PV}, Reps K F H r vs ps → freeAll ps = true → DpAll K H vs (toDs ps)
  | _, _, .nil, _ => .nil
  | _, _, .cons h q, f => by
    simp [freeAll] at f
    exact .cons (Rep.dp h f.1) (Reps.dp q f.2)
end
/-- what is free of lists that are written is the same whichever these are -/
theorem SqF.back {a : Addr} {F2 r2 : List Addr} (hF : ∀ b, b ∈ r2 → (b ∈ r ∨ b ∈ F)) (hF2 : ∀ b, b ∈ F2 → (b ∈ r ∨ b ∈ F)) (h : SqF K F H r a vs) : SqF K F2 H r2 a vs := by
  rcases h with ⟨h, n1, n2⟩ | h | h
  · refine .inl ⟨h, fun m => ?_, fun m => ?_⟩
    · rcases hF a m with z | z
      · exact n1 z
      · exact n2 z
    · rcases hF2 a m with z | z
      · exact n1 z
      · exact n2 z
  · exact .inr (.inl h)
  · exact .inr (.inr h)
mutual
theorem Rep.back {F2 r2 : List Addr} (hF : ∀ b, b ∈ r2 → (b ∈ r ∨ b ∈ F)) (hF2 : ∀ b, b ∈ F2 → (b ∈ r ∨ b ∈ F)) : ∀ {v : V} {p : PV}, Rep K F H r v p → p.free = true → Rep K F2 H r2 v p
  | _, _, .non, _ => .non
  | _, _, .bl b, _ => .bl b
  | _, _, .int i, _ => .int i
  | _, _, .str x, _ => .str x
  | _, _, .lsv h q, f => .lsv (h.back hF hF2) (Reps.back hF hF2 q (by simpa [PV.free] using f))
  | _, _, .tup h q, f => .tup h (Reps.back hF hF2 q (by simpa [PV.free] using f))
  | _, _, .loc e, f => by simp [PV.free] at f
theorem Reps.back {F2 r2 : List Addr} (hF : ∀ b, b ∈ r2 → (b ∈ r ∨ b ∈ F)) (hF2 : ∀ b, b ∈ F2 → (b ∈ r ∨ b ∈ F)) : ∀ {vs : List V} {ps : List PV}, Reps K F H r vs ps → freeAll ps = true → Reps K F2 H r2 vs ps
  | _, _, .nil, _ => .nil
  | _, _, .cons h q, f => by
    simp [freeAll] at f
    exact .cons (Rep.back hF hF2 h f.1) (Reps.back hF hF2 q f.2)
end
end

/-! ### environments -/
structure EnvRel (K : PySem.W.Frag) (F : List Addr) (H : Hp) (r : List Addr) (env : Env) (σ : St) : Prop where
  len : env.length = σ.length
  get : ∀ (i : Nat) (p : PV), env[i]? = some (some p) → ∃ v : V, σ[i]? = some (some v) ∧ Rep K F H r v p
section
variable {K : PySem.W.Frag} {F : List Addr} {H H' : Hp} {r r' : List Addr} {st : Store} {v : V} {p : PV} {env : Env} {σ : St}
theorem EnvRel.aft (R : Rel K F H r st) (A : Aft r H r' H') (e : EnvRel K F H r env σ) : EnvRel K F H' r' env σ :=
  ⟨e.len, fun i p h => let ⟨v, h1, h2⟩ := e.get i p h; ⟨v, h1, h2.aft R A⟩⟩
theorem EnvRel.set (e : EnvRel K F H r env σ) (i : Nat) (h : Rep K F H r v p) : EnvRel K F H r (env.set i (some p)) (σ.set i (some v)) := by
  refine ⟨by simp [e.len], fun j q hq => ?_⟩
  by_cases hj : j = i
  · subst hj
    have hl : j < env.length := by
      have := (List.getElem?_eq_some_iff.mp hq).1
      simpa using this
    rw [List.getElem?_set_self hl] at hq
    cases hq
    exact ⟨v, List.getElem?_set_self (by rw [← e.len]; exact hl), h⟩
  · rw [List.getElem?_set_ne (Ne.symm hj)] at hq
    rw [List.getElem?_set_ne (Ne.symm hj)]
    exact e.get j q hq
theorem EnvRel.unset (e : EnvRel K F H r env σ) (i : Nat) : EnvRel K F H r (env.set i none) (σ.set i none) := by
  refine ⟨by simp [e.len], fun j q hq => ?_⟩
  by_cases hj : j = i
  · subst hj
    have hl : j < env.length := by
      have := (List.getElem?_eq_some_iff.mp hq).1
      simpa using this
    rw [List.getElem?_set_self hl] at hq
    cases hq
  · rw [List.getElem?_set_ne (Ne.symm hj)] at hq
    rw [List.getElem?_set_ne (Ne.symm hj)]
    exact e.get j q hq
theorem EnvRel.wipe (e : EnvRel K F H r env σ) : ∀ vs : List Nat, EnvRel K F H r (wipeE env vs) (wipe σ vs)
  | [] => e
  | v :: vs => (e.wipe vs).unset v
end

/-! ### readings -/
/-- what is wanted of an outcome, reckoned from a state -/
def Post (K : PySem.W.Frag) (F : List Addr) (r : List Addr) (H : Hp) (Q : VK) : Out PV → Prop
  | .ok p st' => ∀ v H' r', Aft r H r' H' → Rel K F H' r' st' → Rep K F H' r' v p → Q v H'
  | _ => False
theorem Post.aft {K : PySem.W.Frag} {F : List Addr} {H H' : Hp} {r r' : List Addr} {Q : VK} {o : Out PV} (h : Post K F r H Q o) (A : Aft r H r' H') : Post K F r' H' Q o := by
  cases o with
  | ok p st' => exact fun v H2 r2 A2 => h v H2 r2 (A.trans A2)
  | exc => exact h.elim
  | bad => exact h.elim
def PostT (K : PySem.W.Frag) (F : List Addr) (r : List Addr) (H : Hp) (Q : Bool → Hp → Prop) : Out Bool → Prop
  | .ok b st' => ∀ H' r', Aft r H r' H' → Rel K F H' r' st' → Q b H'
  | _ => False
def PostA (K : PySem.W.Frag) (F : List Addr) (r : List Addr) (H : Hp) (Q : List V → Hp → Prop) : Out (List PV) → Prop
  | .ok ps st' => ∀ vs H' r', Aft r H r' H' → Rel K F H' r' st' → Reps K F H' r' vs ps → Q vs H'
  | _ => False
def tI (K : PySem.W.Frag) (F : List Addr) (o : Env → Store → Out PV) : TE := fun σ H Q => ∃ r env st, Rel K F H r st ∧ EnvRel K F H r env σ ∧ Post K F r H Q (o env st)
def tIT (K : PySem.W.Frag) (F : List Addr) (o : Env → Store → Out Bool) : TT := fun σ H Q => ∃ r env st, Rel K F H r st ∧ EnvRel K F H r env σ ∧ PostT K F r H Q (o env st)
def tIA (K : PySem.W.Frag) (F : List Addr) (o : Env → Store → Out (List PV)) : TA := fun σ H Q => ∃ r env st, Rel K F H r st ∧ EnvRel K F H r env σ ∧ PostA K F r H Q (o env st)
def PostS (K : PySem.W.Frag) (F : List Addr) (r : List Addr) (H : Hp) (D : Ends) : Out Fl → Prop
  | .ok (.nx e) st' => ∀ σ' H' r', Aft r H r' H' → Rel K F H' r' st' → EnvRel K F H' r' e σ' → D.nx σ' H'
  | .ok (.bk e) st' => ∀ σ' H' r', Aft r H r' H' → Rel K F H' r' st' → EnvRel K F H' r' e σ' → D.bk σ' H'
  | .ok (.ct e) st' => ∀ σ' H' r', Aft r H r' H' → Rel K F H' r' st' → EnvRel K F H' r' e σ' → D.ct σ' H'
  | .ok (.rt p) st' => ∀ v H' r', Aft r H r' H' → Rel K F H' r' st' → Rep K F H' r' v p → D.rt v H'
  | _ => False
theorem PostS.aft {K : PySem.W.Frag} {F : List Addr} {H H' : Hp} {r r' : List Addr} {D : Ends} {o : Out Fl} (h : PostS K F r H D o) (A : Aft r H r' H') : PostS K F r' H' D o := by
  cases o with
  | ok p st' => cases p <;> exact fun v H2 r2 A2 => h v H2 r2 (A.trans A2)
  | exc => exact h.elim
  | bad => exact h.elim
def tIS (K : PySem.W.Frag) (F : List Addr) (o : Env → Store → Out Fl) : TS := fun D σ H => ∃ r env st, Rel K F H r st ∧ EnvRel K F H r env σ ∧ PostS K F r H D (o env st)

theorem PE.imp {X : Cx} {e : Expr} {t t' : TE} (h : PE X e t) (i : ∀ σ H Q, t' σ H Q → t σ H Q) : PE X e t' := ⟨fun pins s σ H Q I q => h.run pins s σ H Q I (i _ _ _ q)⟩
theorem PT.imp {X : Cx} {e : Expr} {t t' : TT} (h : PT X e t) (i : ∀ σ H Q, t' σ H Q → t σ H Q) : PT X e t' := ⟨fun pins s σ H Q I q => h.run pins s σ H Q I (i _ _ _ q)⟩
theorem PA.imp {X : Cx} {e : List Expr} {t t' : TA} (h : PA X e t) (i : ∀ σ H Q, t' σ H Q → t σ H Q) : PA X e t' := ⟨fun pos pins s σ H Q I q => h.run pos pins s σ H Q I (i _ _ _ q)⟩
theorem PS.imp {X : Cx} {e : Stmt} {t t' : TS} (h : PS X e t) (i : ∀ D σ H, t' D σ H → t D σ H) : PS X e t' := ⟨fun pins s σ H D I q => h.run pins s σ H D I (i _ _ _ q)⟩
theorem PSs.imp {X : Cx} {e : List Stmt} {t t' : TS} (h : PSs X e t) (i : ∀ D σ H, t' D σ H → t D σ H) : PSs X e t' := ⟨fun pins s σ H D I q => h.run pins s σ H D I (i _ _ _ q)⟩

/-- a step behind another: from the whole's wish to the first part's, with what is left of the wish -/
theorem tI.step {K : PySem.W.Frag} {F : List Addr} {σ : St} {H : Hp} {Q : VK} {o : Env → Store → Out PV} {f : PV → Env → Store → Out PV}
    (h : tI K F (fun env st => (o env st).bind fun x st1 => f x env st1) σ H Q) :
    tI K F o σ H fun v H1 => ∃ r env st p, Rel K F H1 r st ∧ EnvRel K F H1 r env σ ∧ Rep K F H1 r v p ∧ Post K F r H1 Q (f p env st) := by
  obtain ⟨r, env, st, R, E, q⟩ := h
  refine ⟨r, env, st, R, E, ?_⟩
  dsimp only at q
  cases e : o env st with
  | ok p st1 => 
    rw [e] at q
    exact fun v H1 r1 A R1 r2 => ⟨r1, env, st1, p, R1, E.aft R A, r2, q.aft A⟩
  | exc => rw [e] at q; exact q.elim
  | bad => rw [e] at q; exact q.elim
theorem tIA.step {K : PySem.W.Frag} {F : List Addr} {σ : St} {H : Hp} {Q : VK} {o : Env → Store → Out (List PV)} {f : List PV → Env → Store → Out PV}
    (h : tI K F (fun env st => (o env st).bind fun x st1 => f x env st1) σ H Q) :
    tIA K F o σ H fun vs H1 => ∃ r env st ps, Rel K F H1 r st ∧ EnvRel K F H1 r env σ ∧ Reps K F H1 r vs ps ∧ Post K F r H1 Q (f ps env st) := by
  obtain ⟨r, env, st, R, E, q⟩ := h
  refine ⟨r, env, st, R, E, ?_⟩
  dsimp only at q
  cases e : o env st with
  | ok p st1 => 
    rw [e] at q
    exact fun v H1 r1 A R1 r2 => ⟨r1, env, st1, p, R1, E.aft R A, r2, q.aft A⟩
  | exc => rw [e] at q; exact q.elim
  | bad => rw [e] at q; exact q.elim
theorem tIS.step {K : PySem.W.Frag} {F : List Addr} {σ : St} {H : Hp} {D : Ends} {o : Env → Store → Out PV} {f : PV → Env → Store → Out Fl}
    (h : tIS K F (fun env st => (o env st).bind fun x st1 => f x env st1) D σ H) :
    tI K F o σ H fun v H1 => ∃ r env st p, Rel K F H1 r st ∧ EnvRel K F H1 r env σ ∧ Rep K F H1 r v p ∧ PostS K F r H1 D (f p env st) := by
  obtain ⟨r, env, st, R, E, q⟩ := h
  refine ⟨r, env, st, R, E, ?_⟩
  dsimp only at q
  cases e : o env st with
  | ok p st1 => 
    rw [e] at q
    exact fun v H1 r1 A R1 r2 => ⟨r1, env, st1, p, R1, E.aft R A, r2, q.aft A⟩
  | exc => rw [e] at q; exact q.elim
  | bad => rw [e] at q; exact q.elim
end L2.Iv

/-! IvC: single operations do what the language says. Own work. -/
namespace L2.Iv
open PySem PySem.Spec PyProof.Rows

/-- where one stands: room for n calls, no repr is running, no except suite -/
structure Cal (X : Cx) (n : Nat) : Prop where
  room : Room n X.A
  gd : X.A.guards = some []
  calm : X.calm = true

section
variable {K : PySem.W.Frag} {F : List Addr} {H : Hp} {r : List Addr} {st : Store} {Q : VK} {v : V} {p : PV}
theorem Post.here (R : Rel K F H r st) (h : Post K F r H Q (.ok p st)) (e : Rep K F H r v p) : Q v H := h v H r .refl R e
theorem Post.tup {ps : List PV} {vs : List V} (R : Rel K F H r st) (h : Post K F r H Q (.ok (.tup ps) st)) (e : Reps K F H r vs ps) : ∀ a, H a = none → Q (.ref a) (upd H a (.tup vs)) :=
  fun a ha => h _ _ r (.new ha) (R.new ha) (.newT R ha e)
theorem Post.lst {fr : Bool} {ps : List PV} {vs : List V} (R : Rel K F H r st) (h : Post K F r H Q (newL fr ps st)) (e : Reps K F H r vs ps) : ∀ a, H a = none → Q (.ref a) (upd H a (.lst vs)) := by
  intro a ha
  cases fr with
  | true => exact h _ _ r (.new ha) (R.new ha) (.newF R ha e)
  | false =>
    refine h _ _ (r ++ [a]) (.newL ha) (R.newL ha e) (.loc ?_)
    rw [← R.len]
    simp
theorem reps_ints : ∀ {vs : List V} {ps : List PV} {ns : List Int}, Reps K F H r vs ps → intsOf ps = some ns → vs = ns.map V.int
  | _, _, _, .nil, e => by cases e; rfl
  | _, _, ns, .cons h q, e => by
    cases h with
    | int i =>
      simp only [intsOf, Option.map_eq_some_iff] at e
      obtain ⟨ms, e1, rfl⟩ := e
      rw [reps_ints q e1]; rfl
    | _ => simp [intsOf] at e
theorem reps_bls : ∀ {vs : List V} {ps : List PV} {ns : List Bool}, Reps K F H r vs ps → blsOf ps = some ns → vs = ns.map V.bl
  | _, _, _, .nil, e => by cases e; rfl
  | _, _, ns, .cons h q, e => by
    cases h with
    | bl i =>
      simp only [blsOf, Option.map_eq_some_iff] at e
      obtain ⟨ms, e1, rfl⟩ := e
      rw [reps_bls q e1]; rfl
    | _ => simp [blsOf] at e
theorem rep_flat (h : Rep K F H r v p) (f : flatP p = true) : v = toV p ∧ flatV v = true := by
  cases h <;> first | exact ⟨rfl, rfl⟩ | cases f
theorem reps_flat : ∀ {vs : List V} {ps : List PV}, Reps K F H r vs ps → ps.all flatP = true → vs = ps.map toV ∧ vs.all flatV = true
  | _, _, .nil, _ => ⟨rfl, rfl⟩
  | _, _, .cons h q, f => by
    simp only [List.all_cons, Bool.and_eq_true] at f ⊢
    obtain ⟨e1, f1⟩ := rep_flat h f.1
    obtain ⟨e2, f2⟩ := reps_flat q f.2
    exact ⟨by rw [List.map_cons, ← e1, ← e2], f1, f2⟩
theorem inV_eq (x : PV) : ∀ xs : List PV, L2.inV (toV x) (xs.map toV) = inP x xs
  | [] => rfl
  | y :: ys => by
    have := inV_eq x ys
    simp only [L2.inV, inP, List.map_cons, List.any_cons] at this ⊢
    rw [this]
end

section
variable {X : Cx} {F : List Addr}
/-- list + list, whatever the lists are -/
theorem op_catS : OpR X (binaryOp .Add) (fun x y H Q => ∃ l b xs zs, x = .ref l ∧ y = .ref b ∧ SqL X.K H l xs ∧ SqL X.K H b zs ∧ xs.length + zs.length ≤ sizeLine ∧ ∀ p, H p = none → Q (.ref p) (upd H p (.lst (xs ++ zs)))) := by
  intro pins s σ H x y v u Q I rx ry h
  obtain ⟨l, b, xs, zs, rfl, rfl, h1, h2, hz, q⟩ := h
  cases rx; cases ry
  obtain ⟨us, r1, ⟨⟨c1, d1, t1, s1⟩, n1, g1, rfl, rfl, rfl⟩, _⟩ := I.list h1
  obtain ⟨ws, r2, ⟨⟨c2, d2, t2, s2⟩, n2, g2, rfl, rfl, rfl⟩, _⟩ := I.list h2
  have l1 := r1.length
  have l2 := r2.length
  refine concat_meets ⟨_, g1, rfl⟩ ⟨_, g2, rfl⟩ noFill_list_add seq_list_add PySem.F.slot_list_add PySem.F.entry_list_add
    (PySem.F.args_list_add_2 _ _) (list_addW l b us.toArray ws.toArray n1 n2 none none s1 s2 (by simp; omega)) ⟨g1, g2, ?_⟩
  have e : us.toArray ++ ws.toArray = (us ++ ws).toArray := by simp
  rw [e]
  exact ⟨.ref _, _, I.lnew (t' := s.toks) (r1.append r2) (by rw [List.length_append]; omega), rfl, q _ I.fresh⟩
/-- list * int, whatever the list is -/
theorem op_repS : OpR X (binaryOp .Mult) (fun x y H Q => ∃ l k xs, x = .ref l ∧ y = .int k ∧ SqL X.K H l xs ∧ -(2 ^ 63) ≤ k ∧ k < 2 ^ 63 ∧ xs.length * k.toNat ≤ sizeLine ∧
    ∀ p, H p = none → Q (.ref p) (upd H p (.lst (List.replicate k.toNat xs).flatten))) := by
  intro pins s σ H x y v u Q I rx ry h
  obtain ⟨l, k, xs, rfl, rfl, h1, hlo, hhi, hz, q⟩ := h
  cases rx
  obtain ⟨t, rfl⟩ := ry
  obtain ⟨us, r1, ⟨⟨c1, d1, t1, s1⟩, n1, g1, rfl, rfl, rfl⟩, _⟩ := I.list h1
  have l1 := r1.length
  have hz' : us.toArray.size * k.toNat ≤ 2 ^ 24 := by
    rw [List.size_toArray, ← l1]
    exact hz
  refine wpAny_binaryOp_repeat_ref (T := "list") (U := "int") (by decide) ⟨_, g1, rfl⟩ (fun s' => typeIs_int s' k t)
    noFill_list_mul F.fills_int_mul F.slot_int_rmul repeat_list F.slot_int_index.lookup ?_
  refine call_meets F.slot_int_rmul (typeIs_int s k t) F.entry_int_rmul (F.args_int_rmul_2 _ _)
    (lm_int_rmul_list_any k t l us.toArray n1 none s1) ⟨g1, rfl, ⟨_, g1, rfl⟩, ?_⟩
  refine call_meets F.slot_list_mul ⟨_, g1, rfl⟩ F.entry_list_mul (F.args_list_mul_2 _ _)
    (lm_list_mul_any l us.toArray n1 none s1 k t (by simp [Builtin.List.listFitsIndex]; omega) (by omega)
      (by simp [Builtin.List.listTooLong, sizeLine]; simp at hz'; omega)) ⟨g1, ?_⟩
  have e : List.foldl (fun x1 x2 => x1 ++ x2) #[] (List.replicate (if us.toArray.isEmpty = true then 0 else k.toNat) us.toArray) = (List.replicate k.toNat us).flatten.toArray := by
    rw [listMul_foldl_if]
  rw [e]
  exact ⟨.ref _, _, I.lnew (t' := s.toks) (r1.rep k.toNat) (by rw [PyProof.Rows.lm_len_rep_flat, Nat.mul_comm]; exact hz), rfl, q _ I.fresh⟩

theorem opr_imp {f : Value → Value → Sem Value} {r r' : R2} (h : OpR X f r) (i : ∀ x y H Q, r' x y H Q → r x y H Q) : OpR X f r' :=
  fun pins s σ H x y v u Q I rx ry q => h pins s σ H x y v u Q I rx ry (i _ _ _ _ q)
def opB : Bop → Operator
  | .add => .Add | .sub => .Sub | .mul => .Mult | .fdiv => .FloorDiv | .mod => .Mod | .pow => .Pow | .shl => .LShift | .shr => .RShift | .band => .BitAnd | .bor => .BitOr
/-- two values that the state bears, and what is wanted of an outcome -/
def rB (K : PySem.W.Frag) (F : List Addr) (o : Store → PV → PV → Out PV) : R2 := fun x y H Q => ∃ r st p q, Rel K F H r st ∧ Rep K F H r x p ∧ Rep K F H r y q ∧ Post K F r H Q (o st p q)

theorem op_addI (fr : Bool) : OpR X (binaryOp .Add) (rB X.K F (addV fr)) := by
  intro pins s σ H x y v u Q I rx ry h
  obtain ⟨r, st, p, q, R, hp, hq, h⟩ := h
  have gen : addV fr st p q = addL fr st p q → wpAny (model X.prog X.w) X.A (binaryOp .Add v u) (EP X pins σ Q) X.xe s := by
    intro e
    rw [e] at h
    unfold addL at h
    split at h
    · rename_i xs ys e1 e2
      split at h
      · rename_i hz
        obtain ⟨a, vs, rfl, s1, q1⟩ := hp.seqL R e1
        obtain ⟨b, ws, rfl, s2, q2⟩ := hq.seqL R e2
        exact op_catS pins s σ H _ _ v u Q I rx ry ⟨a, b, vs, ws, rfl, rfl, s1, s2, by rw [q1.length, q2.length]; exact hz, h.lst R (q1.append q2)⟩
      · exact h.elim
    · exact h.elim
  cases hp with
  | int i =>
    cases hq with
    | int j => exact op_add pins s σ H _ _ v u Q I rx ry ⟨i, j, rfl, rfl, h.here R (.int _)⟩
    | _ => exact gen rfl
  | str i =>
    cases hq with
    | str j =>
      simp only [addV] at h
      split at h
      · exact op_add_str pins s σ H _ _ v u Q I rx ry ⟨i, j, rfl, rfl, by assumption, h.here R (.str _)⟩
      · exact h.elim
    | _ => exact gen rfl
  | @tup a1 vs1 xs h1 q1 =>
    cases hq with
    | @tup a2 vs2 ys h2 q2 =>
      simp only [addV] at h
      split at h
      · rename_i hz
        refine op_catA pins s σ H _ _ v u Q I rx ry ⟨_, _, _, _, rfl, rfl, h1, h2, by rw [q1.length, q2.length]; exact hz, ?_⟩
        refine ⟨fun e => ?_, fun e1 e2 => ?_, fun e1 e2 => h.tup R (q1.append q2)⟩
        · subst e
          have : xs = [] := by cases q1; rfl
          subst this
          exact h.here R (.tup h2 q2)
        · subst e2
          have : ys = [] := by cases q2; rfl
          subst this
          exact h.here R (.tup h1 (by rw [List.append_nil]; exact q1))
      · exact h.elim
    | _ => exact gen rfl
  | _ => exact gen rfl

theorem op_mulI (fr : Bool) : OpR X (binaryOp .Mult) (rB X.K F (mulV fr)) := by
  intro pins s σ H x y v u Q I rx ry h
  obtain ⟨r, st, p, q, R, hp, hq, h⟩ := h
  have gen : ∀ k, q = .int k → mulV fr st p q = mulL fr st p k → wpAny (model X.prog X.w) X.A (binaryOp .Mult v u) (EP X pins σ Q) X.xe s := by
    intro k eq e
    subst eq
    rw [e] at h
    unfold mulL at h
    split at h
    · rename_i xs e1
      split at h
      · rename_i hz
        obtain ⟨a, vs, rfl, s1, q1⟩ := hp.seqL R e1
        cases hq
        exact op_repS pins s σ H _ _ v u Q I rx ry ⟨a, k, vs, rfl, rfl, s1, hz.1, hz.2.1, by rw [q1.length]; exact hz.2.2, h.lst R (q1.rep _)⟩
      · exact h.elim
    · exact h.elim
  cases hq with
  | int k =>
    cases hp with
    | int i =>
      simp only [mulV] at h
      split at h
      · exact op_mulW pins s σ H _ _ v u Q I rx ry ⟨i, k, rfl, rfl, by assumption, h.here R (.int _)⟩
      · exact h.elim
    | @tup a1 vs1 xs h1 q1 =>
      simp only [mulV] at h
      split at h
      · rename_i hz
        refine op_repT pins s σ H _ _ v u Q I rx ry ⟨a1, k, vs1, rfl, rfl, h1, ?_, hz.2.1, hz.2.2.1, by rw [q1.length]; exact hz.2.2.2, h.tup R (q1.rep _)⟩
        intro e
        subst e
        cases q1
        exact hz.1 rfl
      · exact h.elim
    | _ => exact gen k rfl rfl
  | _ => cases hp <;> exact h.elim
theorem rI_of {f : Value → Value → Sem Value} {C : Int → Int → Prop} {g : Int → Int → V} {o : Store → PV → PV → Out PV} (h : OpR X f (rI C g))
    (ho : ∀ st p q, (∃ i j, p = .int i ∧ q = .int j ∧ C i j ∧ ∃ k, g i j = .int k ∧ o st p q = .ok (.int k) st) ∨ o st p q = .bad) : OpR X f (rB X.K F o) := opr_imp h fun x y H Q h => by
  obtain ⟨r, st, p, q, R, hp, hq, h⟩ := h
  rcases ho st p q with ⟨i, j, rfl, rfl, hc, k, e1, e2⟩ | e
  · cases hp; cases hq
    rw [e2] at h
    exact ⟨i, j, rfl, rfl, hc, by rw [e1]; exact h.here R (.int _)⟩
  · rw [e] at h; exact h.elim
theorem op_bin (o : Bop) (fr : Bool) : OpR X (binaryOp (opB o)) (rB X.K F (binV o fr)) := by
  cases o with
  | add => exact op_addI fr
  | mul => exact op_mulI fr
  | sub =>
    exact rI_of (C := fun _ _ => True) (opr_imp op_sub fun x y H Q ⟨i, j, a, b, _, q⟩ => ⟨i, j, a, b, q⟩) fun st p q => by
      cases p <;> cases q <;> first | exact .inr rfl | exact .inl ⟨_, _, rfl, rfl, trivial, _, rfl, rfl⟩
  | fdiv =>
    exact rI_of op_fdivW fun st p q => by
      cases p <;> cases q <;> first | exact .inr rfl | (simp only [binV]; split; exact .inl ⟨_, _, rfl, rfl, by assumption, _, rfl, rfl⟩; exact .inr rfl)
  | mod =>
    exact rI_of op_mod fun st p q => by
      cases p <;> cases q <;> first | exact .inr rfl | (simp only [binV]; split; exact .inl ⟨_, _, rfl, rfl, by assumption, _, rfl, rfl⟩; exact .inr rfl)
  | pow =>
    exact rI_of op_pow fun st p q => by
      cases p <;> cases q <;> first | exact .inr rfl | (simp only [binV]; split; exact .inl ⟨_, _, rfl, rfl, by assumption, _, rfl, rfl⟩; exact .inr rfl)
  | shl =>
    exact rI_of op_shl fun st p q => by
      cases p <;> cases q <;> first | exact .inr rfl | (simp only [binV]; split; exact .inl ⟨_, _, rfl, rfl, by assumption, _, rfl, rfl⟩; exact .inr rfl)
  | shr =>
    exact rI_of op_shr fun st p q => by
      cases p <;> cases q <;> first | exact .inr rfl | (simp only [binV]; split; exact .inl ⟨_, _, rfl, rfl, by assumption, _, rfl, rfl⟩; exact .inr rfl)
  | band =>
    exact rI_of (C := fun _ _ => True) (opr_imp op_and fun x y H Q ⟨i, j, a, b, _, q⟩ => ⟨i, j, a, b, q⟩) fun st p q => by
      cases p <;> cases q <;> first | exact .inr rfl | exact .inl ⟨_, _, rfl, rfl, trivial, _, rfl, rfl⟩
  | bor =>
    exact rI_of (C := fun _ _ => True) (opr_imp op_or fun x y H Q ⟨i, j, a, b, _, q⟩ => ⟨i, j, a, b, q⟩) fun st p q => by
      cases p <;> cases q <;> first | exact .inr rfl | exact .inl ⟨_, _, rfl, rfl, trivial, _, rfl, rfl⟩

/-! ### comparisons -/
def opC : Cop → CmpOp
  | .eq => .Eq | .ne => .NotEq | .lt => .Lt | .le => .LtE | .gt => .Gt | .ge => .GtE | .isin => .In | .notin => .NotIn | .is => .Is | .isnot => .IsNot
def rC (K : PySem.W.Frag) (F : List Addr) (o : Cop) : R2 := fun x y H Q => ∃ r st p q b, Rel K F H r st ∧ Rep K F H r x p ∧ Rep K F H r y q ∧ cmpV o st p q = some b ∧ Q (.bl b) H
theorem rC_int {o : Cop} {f : Int → Int → Bool} (h : OpR X (compareOp (opC o)) (rI0 fun i j => .bl (f i j)))
    (ho : ∀ st p q, (∃ i j, p = .int i ∧ q = .int j ∧ cmpV o st p q = some (f i j)) ∨ cmpV o st p q = none) : OpR X (compareOp (opC o)) (rC X.K F o) := opr_imp h fun x y H Q h => by
  obtain ⟨r, st, p, q, b, R, hp, hq, e, h⟩ := h
  rcases ho st p q with ⟨i, j, rfl, rfl, e2⟩ | e2
  · cases hp; cases hq
    rw [e2] at e; cases e
    exact ⟨i, j, rfl, rfl, h⟩
  · rw [e2] at e; cases e
/-- the order of data -/
def rLtD (K : PySem.W.Frag) (g : PyData → PyData → Bool) : R2 := fun x y H Q => ∃ d e, Dp K H x d ∧ Dp K H y e ∧ PySem.W.alike d e = true ∧ (d ≠ .none ∧ e ≠ .none ∧ min d.depth e.depth ≤ 64) ∧ Q (.bl (g d e)) H
theorem op_ltD (hu : X.A.units + 64 < cLine) : OpR X (compareOp .Lt) (rLtD X.K PySem.W.dataLt) := by
  intro pins s σ H x y v u Q I rx ry h
  obtain ⟨d, e, hd, he, ha, ⟨n1, n2, hz⟩, q⟩ := h
  obtain ⟨as, r1⟩ := Dp.reads I d x v hd rx
  obtain ⟨bs, r2⟩ := Dp.reads I e y u he ry
  exact PySem.W.lt_data r1 r2 ha n1 (by omega) ⟨.bl _, H, I, rfl, q⟩
theorem op_gtD (hu : X.A.units + 64 < cLine) : OpR X (compareOp .Gt) (rLtD X.K fun d e => PySem.W.dataLt e d) := by
  intro pins s σ H x y v u Q I rx ry h
  obtain ⟨d, e, hd, he, ha, ⟨n1, n2, hz⟩, q⟩ := h
  obtain ⟨as, r1⟩ := Dp.reads I d x v hd rx
  obtain ⟨bs, r2⟩ := Dp.reads I e y u he ry
  exact PySem.W.gt_data r1 r2 ha n1 (by omega) ⟨.bl _, H, I, rfl, q⟩
theorem op_cmp (n : Nat) (C : Cal X n) (o : Cop) : OpR X (compareOp (opC o)) (rC X.K F o) := by
  have eqs : ∀ {H : Hp} {r : List Addr} {st : Store} {p q : PV} {b : Bool} {x y : V}, Rep X.K F H r x p → Rep X.K F H r y q → eqvV st p q = some b →
      (∃ d e, Dp X.K H x d ∧ Dp X.K H y e ∧ SeqAt.shaped d = true ∧ SeqAt.shaped e = true ∧ PyData.eqv d e = b) ∨ ∃ i j, x = .str i ∧ y = .str j ∧ (i == j) = b := by
    intro H r st p q b x y hp hq e
    have gen : eqvD p q = some b → (∃ d e, Dp X.K H x d ∧ Dp X.K H y e ∧ SeqAt.shaped d = true ∧ SeqAt.shaped e = true ∧ PyData.eqv d e = b) := by
      intro e
      unfold eqvD at e
      split at e
      · rename_i c
        exact ⟨_, _, hp.dp c.1, hq.dp c.2.1, c.2.2.1, c.2.2.2, Option.some.inj e⟩
      · cases e
    cases hp <;> first
      | exact .inl (gen e)
      | (cases hq <;> first
          | exact .inl (gen e)
          | exact .inr ⟨_, _, rfl, rfl, Option.some.inj e⟩)
  have ords : ∀ {H : Hp} {r : List Addr} {st : Store} {p q : PV} {b : Bool} {x y : V}, Rep X.K F H r x p → Rep X.K F H r y q → cmpV .lt st p q = some b →
      (∃ i j, x = .int i ∧ y = .int j ∧ decide (i < j) = b) ∨ ∃ d e, Dp X.K H x d ∧ Dp X.K H y e ∧ PySem.W.alike d e = true ∧ (d ≠ .none ∧ e ≠ .none ∧ min d.depth e.depth ≤ 64) ∧ PySem.W.dataLt d e = b := by
    intro H r st p q b x y hp hq e
    have gen : ∀ {xs ys : List PV}, Rep X.K F H r x (.tup xs) → Rep X.K F H r y (.tup ys) → ltP (.tup xs) (.tup ys) = some b → ∃ d e, Dp X.K H x d ∧ Dp X.K H y e ∧ PySem.W.alike d e = true ∧ (d ≠ .none ∧ e ≠ .none ∧ min d.depth e.depth ≤ 64) ∧ PySem.W.dataLt d e = b := by
      intro xs ys hp hq e
      unfold ltP at e
      split at e
      · rename_i c
        simp only [alikeP, Bool.and_eq_true, decide_eq_true_eq] at c
        obtain ⟨⟨⟨⟨⟨⟨⟨c1, c2⟩, c3⟩, c4⟩, c5⟩, c6⟩, c7⟩, c8⟩ := c
        exact ⟨_, _, hp.dp c1, hq.dp c2, c4, ⟨fun z => (nomatch z), fun z => (nomatch z), Nat.le_trans (Nat.min_le_left _ _) c7⟩, Option.some.inj e⟩
      · cases e
    cases p <;> first | (cases hp <;> cases e; done) | skip
    · cases q <;> first | (cases hq <;> cases e; done) | skip
      cases hp
      cases hq
      exact .inl ⟨_, _, rfl, rfl, Option.some.inj e⟩
    · cases q <;> first | (cases hq <;> cases e; done) | skip
      exact .inr (gen hp hq e)
  cases o with
  | eq =>
    exact opr_imp (OpR.or (op_eqD C.room.units) op_eq) fun x y H Q h => by
      obtain ⟨r, st, p, q, b, R, hp, hq, e, h⟩ := h
      rcases eqs (st := st) hp hq e with ⟨d, e, d1, d2, d3, d4, d5⟩ | ⟨i, j, rfl, rfl, d5⟩
      · exact .inl ⟨_, _, d1, d2, d3, d4, by rw [d5]; exact h⟩
      · exact .inr ⟨rfl, by rw [dec_str, d5]; exact h⟩
  | ne =>
    exact opr_imp (OpR.or (op_neD C.room.units) op_ne) fun x y H Q h => by
      obtain ⟨r, st, p, q, b, R, hp, hq, e, h⟩ := h
      simp only [cmpV, Option.map_eq_some_iff] at e
      obtain ⟨b', e, rfl⟩ := e
      rcases eqs (st := st) hp hq e with ⟨d, e, d1, d2, d3, d4, d5⟩ | ⟨i, j, rfl, rfl, d5⟩
      · exact .inl ⟨_, _, d1, d2, d3, d4, by rw [d5]; exact h⟩
      · exact .inr ⟨rfl, by rw [dec_str, d5]; exact h⟩
  | lt =>
    exact opr_imp (OpR.or op_lt (op_ltD C.room.units)) fun x y H Q h => by
      obtain ⟨r, st, p, q, b, R, hp, hq, e, h⟩ := h
      rcases ords (st := st) hp hq e with ⟨i, j, rfl, rfl, rfl⟩ | ⟨d, f, d1, d2, d3, d4, rfl⟩
      · exact .inl ⟨i, j, rfl, rfl, h⟩
      · exact .inr ⟨d, f, d1, d2, d3, d4, h⟩
  | le => exact rC_int op_le fun st p q => by cases p <;> cases q <;> first | exact .inr rfl | exact .inl ⟨_, _, rfl, rfl, rfl⟩
  | gt =>
    exact opr_imp (OpR.or op_gt (op_gtD C.room.units)) fun x y H Q h => by
      obtain ⟨r, st, p, q, b, R, hp, hq, e, h⟩ := h
      rcases ords (st := st) (b := b) hq hp (by cases p <;> cases q <;> exact e) with ⟨i, j, rfl, rfl, rfl⟩ | ⟨d, f, d1, d2, d3, d4, rfl⟩
      · exact .inl ⟨j, i, rfl, rfl, h⟩
      · exact .inr ⟨f, d, d2, d1, by rw [PySem.W.alike_comm]; exact d3, ⟨d4.2.1, d4.1, by rw [Nat.min_comm]; exact d4.2.2⟩, h⟩
  | ge => exact rC_int op_ge fun st p q => by cases p <;> cases q <;> first | exact .inr rfl | exact .inl ⟨_, _, rfl, rfl, rfl⟩
  | isin =>
    exact opr_imp op_in_seq fun x y H Q h => by
      obtain ⟨r, st, p, q, b, R, hp, hq, e, h⟩ := h
      simp only [cmpV] at e
      split at e
      · rename_i xs e1
        split at e
        · rename_i c
          cases e
          obtain ⟨a, vs, rfl, s1, q1⟩ := hq.seqA R e1
          obtain ⟨rfl, f1⟩ := rep_flat hp c.1
          obtain ⟨rfl, f2⟩ := reps_flat q1 c.2
          exact ⟨a, _, rfl, s1, f1, f2, by rw [inV_eq]; exact h⟩
        · cases e
      · cases e
  | notin =>
    exact opr_imp op_notIn_seq fun x y H Q h => by
      obtain ⟨r, st, p, q, b, R, hp, hq, e, h⟩ := h
      simp only [cmpV] at e
      split at e
      · rename_i xs e1
        split at e
        · rename_i c
          cases e
          obtain ⟨a, vs, rfl, s1, q1⟩ := hq.seqA R e1
          obtain ⟨rfl, f1⟩ := rep_flat hp c.1
          obtain ⟨rfl, f2⟩ := reps_flat q1 c.2
          exact ⟨a, _, rfl, s1, f1, f2, by rw [inV_eq]; exact h⟩
        · cases e
      · cases e
  | is =>
    exact opr_imp (OpR.or op_isBl op_isN) fun x y H Q h => by
      obtain ⟨r, st, p, q, b, R, hp, hq, e, h⟩ := h
      cases hq with
      | bl c =>
        cases hp with
        | bl d => cases e; exact .inl ⟨_, _, rfl, rfl, h⟩
        | _ => cases e
      | non =>
        refine .inr ⟨rfl, ?_⟩
        cases hp <;> (cases e; exact h)
      | _ => cases hp <;> cases e
  | isnot =>
    exact opr_imp (OpR.or op_notBl op_notN) fun x y H Q h => by
      obtain ⟨r, st, p, q, b, R, hp, hq, e, h⟩ := h
      cases hq with
      | bl c =>
        cases hp with
        | bl d => cases e; exact .inl ⟨_, _, rfl, rfl, h⟩
        | _ => cases e
      | non =>
        refine .inr ⟨rfl, ?_⟩
        cases hp <;> (cases e; exact h)
      | _ => cases hp <;> cases e

/-! ### subscripts -/
theorem ix_all : IxR X (fun x y H Q => ∃ r st p q z, Rel X.K F H r st ∧ Rep X.K F H r x p ∧ Rep X.K F H r y q ∧ ixV st p q = some z ∧ ∀ v, Rep X.K F H r v z → Q v H) := by
  intro value slice pins s σ H x y v u Q I rx ry h hs
  refine ix_seq value slice pins s σ H x y v u Q I rx ry ?_ hs
  obtain ⟨r, st, p, q, z, R, hp, hq, e, h⟩ := h
  have gen : ∀ k, q = .int k → ((seqA st p).bind fun xs => atI xs k) = some z → rIx X.K x y H Q := by
    intro k eq e0
    subst eq
    cases hq
    rw [Option.bind_eq_some_iff] at e0
    obtain ⟨xs, e1, e2⟩ := e0
    obtain ⟨a, vs, rfl, s1, q1⟩ := hp.seqA R e1
    have e3 : ∃ w, atI vs k = some w ∧ Rep X.K F H r w z := by
      unfold atI at e2 ⊢
      rw [Option.bind_eq_some_iff] at e2
      obtain ⟨j, e3, e4⟩ := e2
      obtain ⟨w, e5, e6⟩ := q1.get2 e4
      exact ⟨w, by rw [q1.length, e3]; exact e5, e6⟩
    obtain ⟨w, e4, e5⟩ := e3
    rcases s1 with s1 | s1
    · exact .inl ⟨a, vs, k, w, rfl, rfl, s1, e4, h w e5⟩
    · exact .inr (.inl ⟨a, vs, k, w, rfl, rfl, s1, e4, h w e5⟩)
  cases hq with
  | int k =>
    cases hp with
    | str i =>
      simp only [ixV] at e
      split at e
      · rw [Option.map_eq_some_iff] at e
        obtain ⟨c, e1, rfl⟩ := e
        exact .inr (.inr ⟨i, k, c, rfl, rfl, by assumption, e1, h _ (.str _)⟩)
      · cases e
    | non => cases e
    | bl => cases e
    | int => cases e
    | _ =>
      refine gen k rfl ?_
      simp only [ixV] at e
      split at e
      · rename_i xs e1
        rw [e1]; exact e
      · cases e
  | _ => cases hp <;> cases e
theorem reps_cut {K : PySem.W.Frag} {H : Hp} {r : List Addr} {vs : List V} {ps : List PV} (h : Reps K F H r vs ps) (lo hi : Option Int) : Reps K F H r (cutV vs lo hi) (cutP ps lo hi) := by
  unfold cutV cutP
  rw [h.length]
  exact (h.drop _).take _
def rSl (K : PySem.W.Frag) (F : List Addr) (fr : Bool) : V → Option Int → Option Int → Hp → VK → Prop := fun x lo hi H Q => ∃ r st p, Rel K F H r st ∧ Rep K F H r x p ∧ Post K F r H Q (slV fr st p lo hi)
theorem cut_whole (ps : List PV) (lo hi : Option Int) (h1 : HT.sIx ps.length 0 lo = 0) (h2 : HT.sIx ps.length ps.length hi = ps.length) : cutP ps lo hi = ps := by
  unfold cutP
  rw [h1, h2]
  simp
theorem sl_all (fr : Bool) : SlR X (rSl X.K F fr) := by
  intro pins s σ H x v vl vu lo hi sl Q I rx hs pl pu h
  obtain ⟨r, st, p, R, hp, h⟩ := h
  have gen : ∀ xs, seqL st p = some xs → Post X.K F r H Q (newL fr (cutP xs lo hi) st) → ∃ T id, typeLookup (.type T) "__getitem__" = pure (some (.builtin id)) ∧ s.TypeIs v T ∧ wpAny (model X.prog X.w) X.A (getItem v (.ref sl)) (EP X pins σ Q) X.xe s := by
    intro xs e h
    obtain ⟨a, vs, rfl, s1, q1⟩ := hp.seqL R e
    exact sl_list pins s σ H _ v vl vu lo hi sl Q I rx hs pl pu ⟨a, vs, rfl, s1, h.lst R (reps_cut q1 lo hi)⟩
  cases hp with
  | @tup a vs ps h1 q1 =>
    refine sl_tupA pins s σ H _ v vl vu lo hi sl Q I rx hs pl pu ⟨a, vs, rfl, h1, fun w => ?_, fun _ => h.tup R (reps_cut q1 lo hi)⟩
    refine h.here R ?_
    rw [q1.length] at w
    rw [cut_whole ps lo hi w.1 w.2]
    exact .tup h1 q1
  | @lsv a vs ps h1 q1 => exact gen ps rfl h
  | @loc a i e =>
    simp only [slV] at h
    split at h
    · rename_i xs e1
      exact gen xs e1 h
    · exact h.elim
  | _ => exact h.elim

/-! ### truth, types -/
theorem tru_of {K : PySem.W.Frag} {H : Hp} {r : List Addr} {st : Store} {v : V} {p : PV} {b : Bool} (R : Rel K F H r st) (hp : Rep K F H r v p) (e : truthy st p = some b) : TruV K v H b := by
  cases hp with
  | non => cases e; rfl
  | bl => cases e; rfl
  | int => cases e; rfl
  | str x =>
    simp only [truthy] at e
    split at e
    · cases e; exact ⟨by assumption, rfl⟩
    · cases e
  | @lsv a vs ps h q =>
    cases e
    refine .inl ⟨vs, h.seq, ?_⟩
    cases q <;> rfl
  | @tup a vs ps h q =>
    cases e
    refine .inr (.inl ⟨vs, h, ?_⟩)
    cases q <;> rfl
  | @loc a i h =>
    obtain ⟨xs, vs, e1, e2, q⟩ := R.cell h
    simp only [truthy, e1, Option.map_some] at e
    cases e
    refine .inl ⟨vs, .of e2, ?_⟩
    cases q <;> rfl
theorem ty_of {K : PySem.W.Frag} {H : Hp} {r : List Addr} {st : Store} {v : V} {p : PV} {T : String} (R : Rel K F H r st) (hp : Rep K F H r v p) (e : tyOfP p = some T) : TyX K H v (.type T) := by
  cases hp with
  | non => cases e; exact .base .non
  | bl b => cases e; exact .base (.bl b)
  | int i => cases e; exact .base (.int i)
  | str x => cases e; exact .base (.str x)
  | lsv h q =>
    cases e
    rcases h with ⟨h, _⟩ | ⟨o, h⟩ | ⟨o, its, n, h1, h2, _⟩
    · exact .base (.lst h)
    · exact .base (.frz h)
    · exact .kList h1 h2
  | tup h q =>
    cases e
    rcases h with (h | ⟨o, h⟩) | ⟨o, its, n, h1, h2, _⟩
    · exact .base (.tup h)
    · exact .fTuple h
    · exact .kTuple h1 h2
  | loc h =>
    cases e
    obtain ⟨xs, vs, e1, e2, q⟩ := R.cell h
    exact .base (.lst e2)

/-! ### built-ins -/
theorem callr_imp {f : Value} {r r' : List V → Hp → VK → Prop} (h : CallR X f r) (i : ∀ x H Q, r' x H Q → r x H Q) : CallR X f r' :=
  fun pins s σ H x v Q I rx q => h pins s σ H x v Q I rx (i _ _ _ q)
mutual
theorem nodict {K : PySem.W.Frag} {H : Hp} : ∀ (d : PyData) {v : V}, Dp K H v d → d.hasDict = false
  | .none, _, _ => rfl
  | .bool _, _, _ => rfl
  | .int _, _, _ => rfl
  | .str _, _, _ => rfl
  | .list xs, _, h => by
    cases h with
    | lst _ q => exact nodicts xs q
  | .tuple xs, _, h => by
    cases h with
    | tup _ q => exact nodicts xs q
  | .dict _, _, h => by cases h
theorem nodicts {K : PySem.W.Frag} {H : Hp} : ∀ (ds : List PyData) {vs : List V}, DpAll K H vs ds → PyData.hasDictAll ds = false
  | [], _, _ => rfl
  | d :: ds, _, h => by
    cases h with
    | cons h q => simp only [PyData.hasDictAll, nodict d h, nodicts ds q, Bool.or_false]
end
/-- repr of data -/
theorem call_reprD (n : Nat) (C : Cal X n) : CallR X (.builtin "repr") (fun xs H Q => ∃ v d, xs = [v] ∧ Dp X.K H v d ∧ d.showable = true ∧ d.shown.length ≤ sizeLine ∧ d.depth ≤ 64 ∧ Q (.str d.shown) H) := by
  intro pins s σ H xs us Q I rv h
  obtain ⟨v, d, rfl, hd, hs, hz, hdep, q⟩ := h
  obtain ⟨u, rfl, ru⟩ := vals1 rv
  obtain ⟨as, rd⟩ := Dp.reads I d v u hd ru
  have nd : d.hasDict = true → sysModules ∉ as := by
    rw [nodict d hd]
    exact fun z => Bool.noConfusion z
  have hu := C.room.units
  cases hd with
  | non => cases ru; exact PySem.P.repr_of_none ⟨.str _, H, I.tok _, ⟨_, rfl⟩, q⟩
  | bl b => cases ru; exact PySem.P.repr_of_bool ⟨.str _, H, I.tok _, ⟨_, rfl⟩, q⟩
  | int i =>
    obtain ⟨t, rfl⟩ := ru
    exact PySem.P.repr_of_int (of_decide_eq_true hs) ⟨.str _, H, I.tok _, ⟨_, rfl⟩, q⟩
  | str x =>
    obtain ⟨t, rfl⟩ := ru
    exact PySem.P.repr_of_str ⟨.str _, H, I.tok _, ⟨_, rfl⟩, q⟩ hz
  | lst _ _ =>
    cases ru
    exact repr_of_reads' rd hs nd C.gd (by have := C.room.un; omega) (fun _ _ e => e) (fun h' u tk kp => ⟨.str _, H, I.kept kp, ⟨_, rfl⟩, q⟩) hz
  | tup _ _ =>
    cases ru
    exact repr_of_reads' rd hs nd C.gd (by have := C.room.un; omega) (fun _ _ e => e) (fun h' u tk kp => ⟨.str _, H, I.kept kp, ⟨_, rfl⟩, q⟩) hz

def rBi (K : PySem.W.Frag) (F : List Addr) (f : Bi) (fr : Bool) : List V → Hp → VK → Prop := fun xs H Q => ∃ r st ps, Rel K F H r st ∧ Reps K F H r xs ps ∧ Post K F r H Q (biV f fr st ps)
theorem reps1 {K : PySem.W.Frag} {H : Hp} {r : List Addr} {vs : List V} {p : PV} (h : Reps K F H r vs [p]) : ∃ v, vs = [v] ∧ Rep K F H r v p := by
  cases h with
  | cons h q => cases q; exact ⟨_, rfl, h⟩
theorem reps2 {K : PySem.W.Frag} {H : Hp} {r : List Addr} {vs : List V} {p q : PV} (h : Reps K F H r vs [p, q]) : ∃ v u, vs = [v, u] ∧ Rep K F H r v p ∧ Rep K F H r u q := by
  cases h with
  | cons h q =>
    obtain ⟨u, rfl, h2⟩ := reps1 q
    exact ⟨_, _, rfl, h, h2⟩
theorem foldl_max (ns : List Int) : ∀ (n m : Int), m ∈ n :: ns → (∀ y, y ∈ n :: ns → y ≤ m) → m = ns.foldl max n := by
  induction ns with
  | nil => intro n m h _; simpa using h
  | cons a ns ih =>
    intro n m h1 h2
    rw [List.foldl_cons]
    refine ih (max n a) m ?_ ?_
    · have hn := h2 n (by simp)
      have ha := h2 a (by simp)
      simp only [List.mem_cons] at h1 ⊢
      rcases h1 with rfl | rfl | h1
      · left; omega
      · left; omega
      · exact .inr h1
    · intro y hy
      have hn := h2 n (by simp)
      have ha := h2 a (by simp)
      rcases List.mem_cons.mp hy with rfl | hy
      · omega
      · exact h2 y (by simp [hy])
theorem foldl_min (ns : List Int) : ∀ (n m : Int), m ∈ n :: ns → (∀ y, y ∈ n :: ns → m ≤ y) → m = ns.foldl min n := by
  induction ns with
  | nil => intro n m h _; simpa using h
  | cons a ns ih =>
    intro n m h1 h2
    rw [List.foldl_cons]
    refine ih (min n a) m ?_ ?_
    · have hn := h2 n (by simp)
      have ha := h2 a (by simp)
      simp only [List.mem_cons] at h1 ⊢
      rcases h1 with rfl | rfl | h1
      · left; omega
      · left; omega
      · exact .inr h1
    · intro y hy
      have hn := h2 n (by simp)
      have ha := h2 a (by simp)
      rcases List.mem_cons.mp hy with rfl | hy
      · omega
      · exact h2 y (by simp [hy])
section
variable {X : Cx}
/-- max(a, b), compared where the heap H stands -/
theorem two_max {prog : Program} {w : World} {A : Around} {E : Value → Shared → Prop} {s : Shared} {a b : Value} {Q : Value → Shared → Prop}
    (h : wpAny (model prog w) A.in1 (pyIter (.ref s.heap.objs.size)) (fun it s₂ => ∃ I fp wr G n P St H bt, it = .ref I ∧ WalksS prog w A.in1 I fp wr G n P St ∧ St 0 s₂ ∧ (∀ b ∈ fp, b < s₂.heap.objs.size) ∧ 0 < n ∧
      (∀ b o, H.get? b = some o → b ∉ wr) ∧ (∀ b o, H.get? b = some o → s₂.heap.get? b = some o) ∧ CmpIn prog w A.in1 .Gt H P bt ∧ ∀ v s', P (argBest bt (n - 1)) v → Moved wr G s₂ s' → Q v s') E
      { s with heap := s.heap.push { cls := .type "tuple", data := .seq #[a, b] } }) : wpAny (model prog w) A (call (.builtin "max") [a, b]) Q E s := by
  have loopName : (toString "max" ++ toString ".loop" : String) = "max.loop" := by decide
  have noKw : Builtin.Builtins.bindParams "max" ["key", "default"] 0 ⟨[], []⟩ = pure [none, none] := rfl
  refine call_function_tree F.kind_max F.plain_max F.entry_max (F.args_max2 _ _) ?_
  show wpAny _ A.in1 (Builtin.Builtins.bindParams "max" ["key", "default"] 0 ⟨[], []⟩ >>= _) _ _ s
  refine wpAny_bind (wpAny_of_eq noKw ?_)
  show wpAny _ A.in1 (newTuple [a, b] >>= _) _ _ s
  refine wpAny_bind (wpAny_newObj_type (wpAny_bind (wpAny_mono h (fun it s₂ got => ?_) fun _ _ z => z)))
  obtain ⟨I, fp, wr, G, n, P, St, H, bt, rfl, wk, at0, below, pos, apart, stands, cmp, fin⟩ := got
  rw [loopName]
  refine wpAny_bind (wpAny_newObj_type (wpAny_pure ⟨plainId_quiet F.plain_max_loop _, ?_⟩))
  have out : s₂.heap.objs.size ∉ fp := fun m => absurd (below _ m) (Nat.lt_irrefl _)
  refine codeAny_max_loop_firstH wk H apart bt cmp s₂.heap.objs.size out (fresh_in stands) _ pos (fun b o e => Heap.get?_push_of_some _ (stands b o e)) (wk.frame 0 s₂ _ s₂.toks at0 (Nat.le_refl _) fun b _ o e => Heap.get?_push_of_some _ e) (Heap.get?_push_size _ rfl) fun v s' got mv => ?_
  exact fin v s' got (Moved.drop_new (tk := s₂.toks) mv (Nat.le_refl _))
theorem call_max2D (n : Nat) (C : Cal X n) : CallR X (.builtin "max") (fun xs H Q => ∃ x y d e, xs = [x, y] ∧ Dp X.K H x d ∧ Dp X.K H y e ∧ PySem.W.AlikeAll [d, e] ∧ (d.depth ≤ 64 ∧ e.depth ≤ 64) ∧ Q (if PySem.W.dataLt d e = true then y else x) H) := by
  intro pins s σ H xs us Q I rv h
  obtain ⟨x, y, d, e, rfl, hd, he, ha, ⟨z1, z2⟩, q⟩ := h
  obtain ⟨v, u, rfl, r1, r2⟩ := vals2 rv
  obtain ⟨as, rd⟩ := Dp.reads I d x v hd r1
  obtain ⟨bs, re⟩ := Dp.reads I e y u he r2
  have keep : ∀ b o, s.heap.get? b = some o → (s.heap.push { cls := .type "tuple", data := .seq #[v, u] }).get? b = some o := fun b o z => Heap.get?_push_of_some _ z
  have all : ReadsAll (s.heap.push { cls := .type "tuple", data := .seq #[v, u] }) (#[v, u] : Array Value).toList [d, e] (as ++ (bs ++ [])) := .cons (Reads.keeps keep rd) (.cons (Reads.keeps keep re) .nil)
  have tup : (s.heap.push { cls := .type "tuple", data := .seq #[v, u] }).IsTuple s.heap.objs.size #[v, u] := ⟨_, Heap.get?_push_size _ rfl, rfl, 0, rfl⟩
  have room := C.room.un
  refine two_max (PySem.W.iter_tupleW (A := X.A.in1) (I.ok.hd C.calm) tup fun s₂ e2 wk at0 below apart stands => ?_)
  refine ⟨_, _, _, _, _, _, _, s.heap.push { cls := .type "tuple", data := .seq #[v, u] }, _, rfl, wk, at0, below, Nat.succ_pos 1, apart, stands, PySem.W.cmpIn_gt (s := { s with heap := s.heap.push { cls := .type "tuple", data := .seq #[v, u] } }) (A := X.A.in1) all ha (by
    show X.A.units + 1 + max d.depth (max e.depth 0) < cLine
    omega), fun v' s' got mv => ?_⟩
  obtain ⟨h', tk, rfl, hk⟩ := PySem.W.moved_old e2 rfl mv
  have I2 : Inv X pins σ H { s with heap := h', toks := tk } := I.kept fun b o z => hk b o (keep b o z)
  have got : (#[v, u] : Array Value)[argBest (fun i j => PySem.W.dataLt ([d, e].getD j .none) ([d, e].getD i .none)) 1]? = some v' := got
  have ab : argBest (fun i j => PySem.W.dataLt ([d, e].getD j .none) ([d, e].getD i .none)) 1 = if PySem.W.dataLt d e = true then 1 else 0 := rfl
  rw [ab] at got
  by_cases c : PySem.W.dataLt d e = true
  · rw [if_pos c] at got q
    cases got
    exact ⟨y, H, I2, r2, q⟩
  · rw [if_neg c] at got q
    cases got
    exact ⟨x, H, I2, r1, q⟩
/-- min(a, b), compared where the heap H stands -/
theorem two_min {prog : Program} {w : World} {A : Around} {E : Value → Shared → Prop} {s : Shared} {a b : Value} {Q : Value → Shared → Prop}
    (h : wpAny (model prog w) A.in1 (pyIter (.ref s.heap.objs.size)) (fun it s₂ => ∃ I fp wr G n P St H bt, it = .ref I ∧ WalksS prog w A.in1 I fp wr G n P St ∧ St 0 s₂ ∧ (∀ b ∈ fp, b < s₂.heap.objs.size) ∧ 0 < n ∧
      (∀ b o, H.get? b = some o → b ∉ wr) ∧ (∀ b o, H.get? b = some o → s₂.heap.get? b = some o) ∧ CmpIn prog w A.in1 .Lt H P bt ∧ ∀ v s', P (argBest bt (n - 1)) v → Moved wr G s₂ s' → Q v s') E
      { s with heap := s.heap.push { cls := .type "tuple", data := .seq #[a, b] } }) : wpAny (model prog w) A (call (.builtin "min") [a, b]) Q E s := by
  have loopName : (toString "min" ++ toString ".loop" : String) = "min.loop" := by decide
  have noKw : Builtin.Builtins.bindParams "min" ["key", "default"] 0 ⟨[], []⟩ = pure [none, none] := rfl
  refine call_function_tree F.kind_min F.plain_min F.entry_min (F.args_min2 _ _) ?_
  show wpAny _ A.in1 (Builtin.Builtins.bindParams "min" ["key", "default"] 0 ⟨[], []⟩ >>= _) _ _ s
  refine wpAny_bind (wpAny_of_eq noKw ?_)
  show wpAny _ A.in1 (newTuple [a, b] >>= _) _ _ s
  refine wpAny_bind (wpAny_newObj_type (wpAny_bind (wpAny_mono h (fun it s₂ got => ?_) fun _ _ z => z)))
  obtain ⟨I, fp, wr, G, n, P, St, H, bt, rfl, wk, at0, below, pos, apart, stands, cmp, fin⟩ := got
  rw [loopName]
  refine wpAny_bind (wpAny_newObj_type (wpAny_pure ⟨plainId_quiet F.plain_min_loop _, ?_⟩))
  have out : s₂.heap.objs.size ∉ fp := fun m => absurd (below _ m) (Nat.lt_irrefl _)
  refine codeAny_min_loop_firstH wk H apart bt cmp s₂.heap.objs.size out (fresh_in stands) _ pos (fun b o e => Heap.get?_push_of_some _ (stands b o e)) (wk.frame 0 s₂ _ s₂.toks at0 (Nat.le_refl _) fun b _ o e => Heap.get?_push_of_some _ e) (Heap.get?_push_size _ rfl) fun v s' got mv => ?_
  exact fin v s' got (Moved.drop_new (tk := s₂.toks) mv (Nat.le_refl _))
theorem call_min2D (n : Nat) (C : Cal X n) : CallR X (.builtin "min") (fun xs H Q => ∃ x y d e, xs = [x, y] ∧ Dp X.K H x d ∧ Dp X.K H y e ∧ PySem.W.AlikeAll [d, e] ∧ (d.depth ≤ 64 ∧ e.depth ≤ 64) ∧ Q (if PySem.W.dataLt e d = true then y else x) H) := by
  intro pins s σ H xs us Q I rv h
  obtain ⟨x, y, d, e, rfl, hd, he, ha, ⟨z1, z2⟩, q⟩ := h
  obtain ⟨v, u, rfl, r1, r2⟩ := vals2 rv
  obtain ⟨as, rd⟩ := Dp.reads I d x v hd r1
  obtain ⟨bs, re⟩ := Dp.reads I e y u he r2
  have keep : ∀ b o, s.heap.get? b = some o → (s.heap.push { cls := .type "tuple", data := .seq #[v, u] }).get? b = some o := fun b o z => Heap.get?_push_of_some _ z
  have all : ReadsAll (s.heap.push { cls := .type "tuple", data := .seq #[v, u] }) (#[v, u] : Array Value).toList [d, e] (as ++ (bs ++ [])) := .cons (Reads.keeps keep rd) (.cons (Reads.keeps keep re) .nil)
  have tup : (s.heap.push { cls := .type "tuple", data := .seq #[v, u] }).IsTuple s.heap.objs.size #[v, u] := ⟨_, Heap.get?_push_size _ rfl, rfl, 0, rfl⟩
  have room := C.room.un
  refine two_min (PySem.W.iter_tupleW (A := X.A.in1) (I.ok.hd C.calm) tup fun s₂ e2 wk at0 below apart stands => ?_)
  refine ⟨_, _, _, _, _, _, _, s.heap.push { cls := .type "tuple", data := .seq #[v, u] }, _, rfl, wk, at0, below, Nat.succ_pos 1, apart, stands, PySem.W.cmpIn_lt (s := { s with heap := s.heap.push { cls := .type "tuple", data := .seq #[v, u] } }) (A := X.A.in1) all ha (by
    show X.A.units + 1 + max d.depth (max e.depth 0) < cLine
    omega), fun v' s' got mv => ?_⟩
  obtain ⟨h', tk, rfl, hk⟩ := PySem.W.moved_old e2 rfl mv
  have I2 : Inv X pins σ H { s with heap := h', toks := tk } := I.kept fun b o z => hk b o (keep b o z)
  have got : (#[v, u] : Array Value)[argBest (fun i j => PySem.W.dataLt ([d, e].getD i .none) ([d, e].getD j .none)) 1]? = some v' := got
  have ab : argBest (fun i j => PySem.W.dataLt ([d, e].getD i .none) ([d, e].getD j .none)) 1 = if PySem.W.dataLt e d = true then 1 else 0 := rfl
  rw [ab] at got
  by_cases c : PySem.W.dataLt e d = true
  · rw [if_pos c] at got q
    cases got
    exact ⟨y, H, I2, r2, q⟩
  · rw [if_neg c] at got q
    cases got
    exact ⟨x, H, I2, r1, q⟩
end
/-- the name of a built-in, and whether it is a type -/
def biName : Bi → Str
  | .len => "len" | .abs => "abs" | .max2 => "max" | .min2 => "min" | .maxl => "max" | .minl => "min" | .sum => "sum" | .any => "any" | .all => "all" | .int => "int" | .tuple => "tuple" | .list => "list" | .repr => "repr"
def biVal : Bi → Value
  | .len => .builtin "len" | .abs => .builtin "abs" | .max2 => .builtin "max" | .min2 => .builtin "min" | .maxl => .builtin "max" | .minl => .builtin "min" | .sum => .builtin "sum" | .any => .builtin "any" | .all => .builtin "all"
  | .int => .type "int" | .tuple => .type "tuple" | .list => .type "list" | .repr => .builtin "repr"
theorem call_bi (n : Nat) (C : Cal X n) (f : Bi) (fr : Bool) : CallR X (biVal f) (rBi X.K F f fr) := by
  have one : ∀ {H : Hp} {r : List Addr} {st : Store} {ps : List PV} {Q : VK}, Post X.K F r H Q (biV f fr st ps) → ps ≠ [] := by
    intro H r st ps Q h e
    subst e
    cases f <;> exact h.elim
  cases f with
  | len =>
    refine callr_imp (CallR.or call_len_str call_len_seq) fun xs H Q h => ?_
    obtain ⟨r, st, ps, R, hp, h⟩ := h
    match ps, hp, h with
    | [], _, h => exact h.elim
    | p :: _ :: _, _, h => cases p <;> exact h.elim
    | [p], hp, h =>
      obtain ⟨v, rfl, hv⟩ := reps1 hp
      cases hv with
      | str x =>
        simp only [biV] at h
        split at h
        · exact .inl ⟨x, rfl, by assumption, h.here R (.int _)⟩
        · exact h.elim
      | @lsv a vs ps e q => exact .inr ⟨a, vs, rfl, .inl e.seq, by rw [q.length]; exact h.here R (.int _)⟩
      | @tup a vs ps e q => exact .inr ⟨a, vs, rfl, .inr e, by rw [q.length]; exact h.here R (.int _)⟩
      | @loc a i e =>
        obtain ⟨xs, vs, e1, e2, q⟩ := R.cell e
        simp only [biV, seqA, e1] at h
        exact .inr ⟨a, vs, rfl, .inl (.of e2), by rw [q.length]; exact h.here R (.int _)⟩
      | _ => exact h.elim
  | abs =>
    refine callr_imp call_abs fun xs H Q h => ?_
    obtain ⟨r, st, ps, R, hp, h⟩ := h
    match ps, hp, h with
    | [], _, h => exact h.elim
    | p :: _ :: _, _, h => cases p <;> exact h.elim
    | [p], hp, h =>
      obtain ⟨v, rfl, hv⟩ := reps1 hp
      cases hv with
      | int i => exact ⟨i, rfl, h.here R (.int _)⟩
      | _ => exact h.elim
  | max2 =>
    refine callr_imp (CallR.or (call_max2 C.calm) (call_max2D n C)) fun xs H Q h => ?_
    obtain ⟨r, st, ps, R, hp, h⟩ := h
    match ps, hp, h with
    | [], _, h => exact h.elim
    | [p], _, h => cases p <;> exact h.elim
    | p :: q :: _ :: _, _, h => cases p <;> first | exact h.elim | (cases q <;> exact h.elim)
    | [p, q], hp, h =>
      obtain ⟨v, u, rfl, hv, hq⟩ := reps2 hp
      cases p <;> first | (cases q <;> exact h.elim) | skip
      · cases q <;> first | exact h.elim | skip
        cases hv
        cases hq
        exact .inl ⟨_, _, rfl, h.here R (.int _)⟩
      · cases q <;> first | exact h.elim | skip
        rename_i xs ys
        refine .inr ?_
        simp only [biV] at h
        unfold ltP at h
        split at h
        · rename_i b hb
          split at hb
          · rename_i c
            cases hb
            simp only [alikeP, Bool.and_eq_true, decide_eq_true_eq] at c
            obtain ⟨⟨⟨⟨⟨⟨⟨c1, c2⟩, c3⟩, c4⟩, c5⟩, c6⟩, c7⟩, c8⟩ := c
            refine ⟨v, u, (PV.tup xs).toD, (PV.tup ys).toD, rfl, hv.dp c1, hq.dp c2, ⟨fun x hx y hy => ?_, fun x hx => ?_⟩, ⟨c7, c8⟩, ?_⟩
            · simp only [List.mem_cons, List.not_mem_nil, or_false] at hx hy
              rcases hx with rfl | rfl <;> rcases hy with rfl | rfl <;> assumption
            · simp only [List.mem_cons, List.not_mem_nil, or_false] at hx
              rcases hx with rfl | rfl <;> exact fun z => (nomatch z)
            · split at h
              · rename_i k
                rw [if_pos k]; exact h.here R hq
              · rename_i k
                rw [if_neg k]; exact h.here R hv
          · cases hb
        · exact h.elim
  | min2 =>
    refine callr_imp (CallR.or (call_min2 C.calm) (call_min2D n C)) fun xs H Q h => ?_
    obtain ⟨r, st, ps, R, hp, h⟩ := h
    match ps, hp, h with
    | [], _, h => exact h.elim
    | [p], _, h => cases p <;> exact h.elim
    | p :: q :: _ :: _, _, h => cases p <;> first | exact h.elim | (cases q <;> exact h.elim)
    | [p, q], hp, h =>
      obtain ⟨v, u, rfl, hv, hq⟩ := reps2 hp
      cases p <;> first | (cases q <;> exact h.elim) | skip
      · cases q <;> first | exact h.elim | skip
        cases hv
        cases hq
        exact .inl ⟨_, _, rfl, h.here R (.int _)⟩
      · cases q <;> first | exact h.elim | skip
        rename_i xs ys
        refine .inr ?_
        simp only [biV] at h
        unfold ltP at h
        split at h
        · rename_i b hb
          split at hb
          · rename_i c
            cases hb
            simp only [alikeP, Bool.and_eq_true, decide_eq_true_eq] at c
            obtain ⟨⟨⟨⟨⟨⟨⟨c1, c2⟩, c3⟩, c4⟩, c5⟩, c6⟩, c7⟩, c8⟩ := c
            refine ⟨v, u, (PV.tup xs).toD, (PV.tup ys).toD, rfl, hv.dp c2, hq.dp c1, ⟨fun x hx y hy => ?_, fun x hx => ?_⟩, ⟨c8, c7⟩, ?_⟩
            · simp only [List.mem_cons, List.not_mem_nil, or_false] at hx hy
              rcases hx with rfl | rfl <;> rcases hy with rfl | rfl <;> assumption
            · simp only [List.mem_cons, List.not_mem_nil, or_false] at hx
              rcases hx with rfl | rfl <;> exact fun z => (nomatch z)
            · split at h
              · rename_i k
                rw [if_pos k]; exact h.here R hq
              · rename_i k
                rw [if_neg k]; exact h.here R hv
          · cases hb
        · exact h.elim
  | maxl =>
    refine callr_imp (cr_max C.calm) fun xs H Q h => ?_
    obtain ⟨r, st, ps, R, hp, h⟩ := h
    match ps, hp, h with
    | [], _, h => exact h.elim
    | p :: _ :: _, _, h => exact h.elim
    | [p], hp, h =>
      obtain ⟨v, rfl, hv⟩ := reps1 hp
      simp only [biV] at h
      split at h
      · rename_i k ks e
        rw [Option.bind_eq_some_iff] at e
        obtain ⟨ys, e1, e2⟩ := e
        obtain ⟨a, vs, rfl, s1, q1⟩ := hv.seqL R e1
        have e3 := reps_ints q1 e2
        subst e3
        refine ⟨a, k :: ks, rfl, s1, by simp, fun m h1 h2 => ?_⟩
        rw [foldl_max ks k m h1 h2]
        exact h.here R (.int _)
      · exact h.elim
  | minl =>
    refine callr_imp (cr_min C.calm) fun xs H Q h => ?_
    obtain ⟨r, st, ps, R, hp, h⟩ := h
    match ps, hp, h with
    | [], _, h => exact h.elim
    | p :: _ :: _, _, h => exact h.elim
    | [p], hp, h =>
      obtain ⟨v, rfl, hv⟩ := reps1 hp
      simp only [biV] at h
      split at h
      · rename_i k ks e
        rw [Option.bind_eq_some_iff] at e
        obtain ⟨ys, e1, e2⟩ := e
        obtain ⟨a, vs, rfl, s1, q1⟩ := hv.seqL R e1
        have e3 := reps_ints q1 e2
        subst e3
        refine ⟨a, k :: ks, rfl, s1, by simp, fun m h1 h2 => ?_⟩
        rw [foldl_min ks k m h1 h2]
        exact h.here R (.int _)
      · exact h.elim
  | sum =>
    refine callr_imp (cr_sum C.calm) fun xs H Q h => ?_
    obtain ⟨r, st, ps, R, hp, h⟩ := h
    match ps, hp, h with
    | [], _, h => exact h.elim
    | p :: _ :: _, _, h => exact h.elim
    | [p], hp, h =>
      obtain ⟨v, rfl, hv⟩ := reps1 hp
      simp only [biV] at h
      split at h
      · rename_i ks e
        rw [Option.bind_eq_some_iff] at e
        obtain ⟨ys, e1, e2⟩ := e
        obtain ⟨a, vs, rfl, s1, q1⟩ := hv.seqL R e1
        have e3 := reps_ints q1 e2
        subst e3
        exact ⟨a, ks, rfl, s1, h.here R (.int _)⟩
      · exact h.elim
  | any =>
    refine callr_imp (cr_any C.calm) fun xs H Q h => ?_
    obtain ⟨r, st, ps, R, hp, h⟩ := h
    match ps, hp, h with
    | [], _, h => exact h.elim
    | p :: _ :: _, _, h => exact h.elim
    | [p], hp, h =>
      obtain ⟨v, rfl, hv⟩ := reps1 hp
      simp only [biV] at h
      split at h
      · rename_i ks e
        rw [Option.bind_eq_some_iff] at e
        obtain ⟨ys, e1, e2⟩ := e
        obtain ⟨a, vs, rfl, s1, q1⟩ := hv.seqL R e1
        have e3 := reps_bls q1 e2
        subst e3
        exact ⟨a, ks, rfl, s1, h.here R (.bl _)⟩
      · exact h.elim
  | all =>
    refine callr_imp (cr_all C.calm) fun xs H Q h => ?_
    obtain ⟨r, st, ps, R, hp, h⟩ := h
    match ps, hp, h with
    | [], _, h => exact h.elim
    | p :: _ :: _, _, h => exact h.elim
    | [p], hp, h =>
      obtain ⟨v, rfl, hv⟩ := reps1 hp
      simp only [biV] at h
      split at h
      · rename_i ks e
        rw [Option.bind_eq_some_iff] at e
        obtain ⟨ys, e1, e2⟩ := e
        obtain ⟨a, vs, rfl, s1, q1⟩ := hv.seqL R e1
        have e3 := reps_bls q1 e2
        subst e3
        exact ⟨a, ks, rfl, s1, h.here R (.bl _)⟩
      · exact h.elim
  | int =>
    refine callr_imp call_int1 fun xs H Q h => ?_
    obtain ⟨r, st, ps, R, hp, h⟩ := h
    match ps, hp, h with
    | [], _, h => exact h.elim
    | p :: _ :: _, _, h => cases p <;> exact h.elim
    | [p], hp, h =>
      obtain ⟨v, rfl, hv⟩ := reps1 hp
      cases hv with
      | int i => exact .inl ⟨i, rfl, h.here R (.int _)⟩
      | bl b => exact .inr ⟨b, rfl, h.here R (.int _)⟩
      | _ => exact h.elim
  | tuple =>
    refine callr_imp call_tuple_of fun xs H Q h => ?_
    obtain ⟨r, st, ps, R, hp, h⟩ := h
    match ps, hp, h with
    | [], _, h => exact h.elim
    | p :: _ :: _, _, h => cases p <;> exact h.elim
    | [p], hp, h =>
      obtain ⟨v, rfl, hv⟩ := reps1 hp
      cases hv with
      | @lsv a vs ps e q => exact ⟨a, vs, rfl, .inl ⟨e.seq, h.tup R q⟩⟩
      | @tup a vs ps e q => exact ⟨a, vs, rfl, .inr ⟨e, h.here R (.tup e q)⟩⟩
      | @loc a i e =>
        obtain ⟨xs, vs, e1, e2, q⟩ := R.cell e
        simp only [biV, seqL, e1] at h
        exact ⟨a, vs, rfl, .inl ⟨.of e2, h.tup R q⟩⟩
      | _ => exact h.elim
  | list =>
    refine callr_imp call_list_of fun xs H Q h => ?_
    obtain ⟨r, st, ps, R, hp, h⟩ := h
    match ps, hp, h with
    | [], _, h => exact h.elim
    | p :: _ :: _, _, h => exact h.elim
    | [p], hp, h =>
      obtain ⟨v, rfl, hv⟩ := reps1 hp
      simp only [biV] at h
      split at h
      · rename_i ys e1
        obtain ⟨a, vs, rfl, s1, q1⟩ := hv.seqA R e1
        exact ⟨a, vs, rfl, s1, h.lst R q1⟩
      · exact h.elim
  | repr =>
    refine callr_imp (call_reprD n C) fun xs H Q h => ?_
    obtain ⟨r, st, ps, R, hp, h⟩ := h
    match ps, hp, h with
    | [], _, h => exact h.elim
    | p :: _ :: _, _, h => exact h.elim
    | [p], hp, h =>
      obtain ⟨v, rfl, hv⟩ := reps1 hp
      simp only [biV] at h
      split at h
      · rename_i c
        exact ⟨v, _, rfl, hv.dp c.1, c.2.1, c.2.2.1, c.2.2.2, h.here R (.str _)⟩
      · exact h.elim

end
/-! ### methods of lists -/
/-- list.extend by a sequence, whatever its object bears besides -/
theorem ext_any (T : String) (hT : T = "list" ∨ T = "tuple") (l : Addr) (xs : Array Value) (n : Nat) (b : Addr) (ys : Array Value) (m : Nat) (dd : Option Addr) (sl : Array (Option Value))
    (h0 : ¬(!xs.isEmpty && Builtin.List.listTooLong (xs.size + ys.size)) = true) (h1 : xs.size ≤ sizeLine) (h2 : xs.size + ys.size ≤ sizeLine + 1) :
    Meets (Builtin.«list.extend» ⟨[.ref l, .ref b], []⟩) (fun _ R s =>
      s.heap.get? l = some { cls := .type "list", dict := none, data := .seq xs n, slots := #[] } ∧
      s.heap.get? b = some { cls := .type T, dict := dd, data := .seq ys m, slots := sl } ∧
      R (.ok (.ret Value.none)) { s with heap := s.heap.update l (Obj.mapSeq fun x => x ++ ys), toks := s.toks }) := by
  refine .of_wp fun prog w A R s h => ?_
  obtain ⟨hp, g, d, tk, os⟩ := s
  obtain ⟨hl, hb, h⟩ := h
  have q1 := AutoSeq1.idx_int
  have q2 := AutoSeq1.sub_tuple_tuple
  have q3 := AutoSeq1.sub_list_list
  have q4 := AutoSeq1.sub_tuple_list
  have q5 := AutoSeq1.sub_list_tuple
  have hz : (xs ++ ys).size ≤ sizeLine + 1 := by
    rw [Array.size_append]; exact h2
  rcases hT with rfl | rfl
  · wp_walk using (PySem.wpAny_updateSeq hl rfl (hz := h1) (_hz' := hz)), AutoSeq1.wpAny_loadPart' hl, AutoSeq1.wpAny_loadPart' hb
    exact ⟨_, rfl, h⟩
  · wp_walk using (PySem.wpAny_updateSeq hl rfl (hz := h1) (_hz' := hz)), AutoSeq1.wpAny_loadPart' hl, AutoSeq1.wpAny_loadPart' hb
    exact ⟨_, rfl, h⟩
section
variable {X : Cx} {F : List Addr}
/-- xs.extend(a list or a tuple) -/
theorem mt_extS : MtR X "list.extend" (fun x vs H Q => ∃ l b xs zs, x = .ref l ∧ vs = [.ref b] ∧ H l = some (.lst xs) ∧ (SqL X.K H b zs ∨ SqT X.K H b zs) ∧ xs.length + zs.length ≤ sizeLine ∧ Q .non (upd H l (.lst (xs ++ zs)))) := by
  intro pins s σ H x vs v us Q I rx rv h
  obtain ⟨l, b, xs, zs, rfl, rfl, hH, hB, hz, q⟩ := h
  cases rx
  obtain ⟨u, rfl, ru⟩ := rv.one
  cases ru
  obtain ⟨z, its, n, r, hl, e⟩ := I.lstM hH
  have big : ∀ k : Nat, its.toArray.size + k ≤ sizeLine → ¬ (!its.toArray.isEmpty && Builtin.List.listTooLong (its.toArray.size + k)) = true := by
    intro k hk
    rw [notLongL hk, Bool.and_false]
    exact Bool.false_ne_true
  have done : ∀ (T : String) (ws : List Value) (dd : Option Addr) (m : Nat) (sl : Array (Option Value)), T = "list" ∨ T = "tuple" → Vals zs ws → s.heap.get? b = some { cls := .type T, dict := dd, data := .seq ws.toArray m, slots := sl } →
      wpAny (model X.prog X.w) X.A (call (.builtin "list.extend") [.ref l, .ref b]) (EP X pins σ Q) X.xe s := by
    intro T ws dd m sl hT r2 g2
    have hl2 := r2.length
    have hz2 : its.toArray.size + ws.toArray.size ≤ sizeLine := by rw [List.size_toArray, List.size_toArray]; omega
    refine call_meets F.slot_list_extend ⟨_, e, rfl⟩ F.entry_list_extend (F.args_list_extend_2 _ _)
      (ext_any T hT l its.toArray n b ws.toArray m dd sl (big _ hz2) (by omega) (by omega)) ⟨e, g2, ?_⟩
    exact ⟨.non, _, I.lset (its' := its ++ ws) hH e (by simp) (r.append r2) (by rw [List.length_append]; omega), rfl, q⟩
  rcases hB with hB | hB
  · obtain ⟨ws, r2, ⟨⟨c2, d2, t2, s2⟩, n2, g2, rfl, rfl, rfl⟩, _⟩ := I.list hB
    exact done "list" ws none n2 s2 (.inl rfl) r2 g2
  · obtain ⟨ws, r2, ⟨⟨c2, d2, t2, s2⟩, g2, rfl, n2, rfl⟩, _⟩ := I.tuple hB
    exact done "tuple" ws d2 n2 s2 (.inr rfl) r2 g2

def meId : Me → String
  | .append => "list.append" | .extend => "list.extend" | .pop => "list.pop"
def meName : Me → Str
  | .append => "append" | .extend => "extend" | .pop => "pop"
def rMe (K : PySem.W.Frag) (F : List Addr) (m : Me) : V → List V → Hp → VK → Prop := fun x vs H Q => ∃ r st i a ps, x = .ref a ∧ Rel K F H r st ∧ r[i]? = some a ∧ Reps K F H r vs ps ∧ Post K F r H Q (meV m st i ps)
theorem mtr_imp {id : String} {r r' : V → List V → Hp → VK → Prop} (h : MtR X id r) (i : ∀ x xs H Q, r' x xs H Q → r x xs H Q) : MtR X id r' :=
  fun pins s σ H x xs v us Q I rx rs q => h pins s σ H x xs v us Q I rx rs (i _ _ _ _ q)
theorem mt_me (m : Me) : MtR X (meId m) (rMe X.K F m) := by
  cases m with
  | append =>
    refine mtr_imp (r := rAppend) mt_append fun x vs H Q h => ?_
    obtain ⟨r, st, i, a, ps, rfl, R, ha, hp, h⟩ := h
    obtain ⟨xs, ws, e1, e2, q⟩ := R.cell ha
    match ps, hp, h with
    | [], _, h => simp only [meV, e1] at h; exact h.elim
    | p :: _ :: _, _, h => simp only [meV, e1] at h; exact h.elim
    | [p], hp, h =>
      obtain ⟨v, rfl, hv⟩ := reps1 hp
      simp only [meV, e1] at h
      split at h
      · rename_i hz
        have q2 : Reps X.K F H r (ws ++ [v]) (xs ++ [p]) := q.append (.cons hv .nil)
        exact ⟨a, ws, v, rfl, rfl, e2, by rw [q.length]; exact hz, h _ _ r (.write (List.mem_of_getElem? ha)) (R.write ha q2) .non⟩
      · exact h.elim
  | extend =>
    refine mtr_imp mt_extS fun x vs H Q h => ?_
    obtain ⟨r, st, i, a, ps, rfl, R, ha, hp, h⟩ := h
    obtain ⟨xs, ws, e1, e2, q⟩ := R.cell ha
    match ps, hp, h with
    | [], _, h => simp only [meV, e1] at h; exact h.elim
    | p :: _ :: _, _, h => simp only [meV, e1] at h; exact h.elim
    | [p], hp, h =>
      obtain ⟨v, rfl, hv⟩ := reps1 hp
      simp only [meV, e1] at h
      split at h
      · rename_i zs e3
        split at h
        · rename_i hz
          obtain ⟨b, us, rfl, s1, q1⟩ := hv.seqA R e3
          refine ⟨a, b, ws, us, rfl, rfl, e2, s1, by rw [q.length, q1.length]; exact hz, ?_⟩
          exact h _ _ r (.write (List.mem_of_getElem? ha)) (R.write ha (q.append q1)) .non
        · exact h.elim
      · exact h.elim
  | pop =>
    refine mtr_imp (r := rPop) mt_pop fun x vs H Q h => ?_
    obtain ⟨r, st, i, a, ps, rfl, R, ha, hp, h⟩ := h
    obtain ⟨xs, ws, e1, e2, q⟩ := R.cell ha
    match ps, hp, h with
    | _ :: _, _, h => simp only [meV, e1] at h; exact h.elim
    | [], hp, h =>
      cases hp
      simp only [meV, e1] at h
      split at h
      · rename_i y e3
        obtain ⟨v, e4, hv⟩ := q.get2 e3
        have A : Aft r H r (upd H a (.lst ws.dropLast)) := .write (List.mem_of_getElem? ha)
        exact ⟨a, ws, v, rfl, rfl, e2, by rw [q.length]; exact e4, h _ _ r A (R.write ha q.dropLast) (hv.aft R A)⟩
      · exact h.elim
end
end L2.Iv

/-! IvD: calls, what the program's text must be for a piece of the language, what stands around. Own work. -/
namespace L2.Iv
open PySem PySem.Spec PyProof.Rows

/-! ### a def's promise, where no repr is running -/
structure FnG (P : Program) (w : World) (K : PySem.W.Frag) (mg : Str → Option Value) (base : Heap) (n : Nat) (f : Addr) (fd : FuncData) (ps : List Str) (sp : List V → Hp → VK → Prop) : Prop where
  len : ∀ vs H Q, sp vs H Q → vs.length = ps.length
  run : ∀ (A : Around) (outer : List PySem.Env) (s : Shared) (H : Hp) (args : Args) (us : List Value) (vs : List V) (Q : VK),
    Room n A → A.guards = some [] → Env0 P w K mg base A outer s H → BindsTo s fd args (ps.zip us) → Vals vs us → sp vs H Q →
      codeAny (model P w) A (.call (.ref f) args) (CR CX0 outer P w H s Q E0) s
section
variable {X : Cx} {n : Nat} {f : Addr} {fd : FuncData} {ps : List Str} {sp : List V → Hp → VK → Prop}
theorem run_G {pins : List (Addr × Obj)} {σ : St} {H : Hp} {s : Shared} {Q : VK} {args : Args} {us : List Value} {vs : List V} (G : FnG X.prog X.w X.K X.mg X.base n f fd ps sp) (C : Cal X n)
    (I : Inv X pins σ H s) (hb : BindsTo s fd args (ps.zip us)) (r : Vals vs us) (h : sp vs H Q) : codeAny (model X.prog X.w) X.A (.call (.ref f) args) (fun r s' => match r with
      | .ok (.ret u) => EP X pins σ Q u s'
      | _ => False) s := by
  refine codeAny_mono (G.run X.A X.stack s H args us vs Q C.room C.gd I.env0 hb r h) fun r s' hq => ?_
  cases r with
  | error e => exact False.elim hq
  | ok fl =>
    cases fl with
    | ret u => exact I.after hq
    | next => exact False.elim hq
    | brk => exact False.elim hq
    | cont => exact False.elim hq
theorem run_G2 {pins : List (Addr × Obj)} {σ : St} {H : Hp} {s : Shared} {Q : VK} {us0 : List Value} {kw : List (Str × Value)} {us : List Value} {vs : List V} (G : FnG X.prog X.w X.K X.mg X.base n f fd ps sp) (C : Cal X n)
    (I : Inv X pins σ H s) (hb : BindsTo s fd ⟨us0, kw⟩ (ps.zip us)) (r : Vals vs us) (h : sp vs H Q) : wpAny (model X.prog X.w) X.A (call (.ref f) us0 kw) (EP X pins σ Q) X.xe s := by
  refine wpAny_call (codeAny_mono (run_G G C I hb r h) fun r s' hq => ?_)
  cases r with
  | error e => exact False.elim hq
  | ok fl =>
    cases fl with
    | ret u => exact hq
    | next => exact False.elim hq
    | brk => exact False.elim hq
    | cont => exact False.elim hq
/-- a def of the module called, its arguments by place -/
theorem pe_cG {x : Str} {e : Expr} {es : List Expr} {p pos : Pos} {t : TA} (G : FnG X.prog X.w X.K X.mg X.base n f fd ps sp) (C : Cal X n) (hg : Gl X x) (hm : X.mg x = some (.ref f)) (hk : PySem.W.keepIn X.K (.ref f) = true)
    (hb : ∀ (s : Shared) (us : List Value), us.length = ps.length → BindsTo s fd ⟨us, []⟩ (ps.zip us)) (ha : PA X (e :: es) t) (hdb : (x == ("__debug__" : Str)) = false)
    (he : starEach (e :: es) X.env = (false, eval e X.env) :: starEach es X.env) (hpl : (backTo pos (starEach es X.env)).any (·.1) = false) :
    PE X (.Call (.Name x p) (e :: es) [] pos) (fun σ H Q => t σ H fun vs H1 => sp vs H1 Q) := by
  refine ⟨fun pins s σ H Q I h => ?_⟩
  refine wpAny_Call_Name_kw (ld_glob I hg hm ?_ hdb)
  refine PySem.W.callWith_K (h₀ := X.base) I.ok.mod.kin hk (thn (ha.run pos pins s σ H _ I h) fun us s1 ⟨vs, H1, I1, r, q⟩ => ⟨I1.kIn, ?_⟩) he hpl
  exact run_G2 G C I1 (hb s1 us (by rw [← r.length]; exact G.len _ _ _ q)) r q
/-- .. by name too -/
theorem pe_cGk {x : Str} {e : Expr} {es : List Expr} {kws : List Keyword} {p pos : Pos} {t tk : TA} {ks : List Str} {g : List Value → List Value → List Value} {gV : List V → List V → List V}
    (G : FnG X.prog X.w X.K X.mg X.base n f fd ps sp) (C : Cal X n) (hg : Gl X x) (hm : X.mg x = some (.ref f)) (hk : PySem.W.keepIn X.K (.ref f) = true)
    (hb : ∀ (s : Shared) (us ws : List Value), (g us ws).length = ps.length → ws.length = ks.length → us.length = (e :: es).length → BindsTo s fd ⟨us, ks.zip ws⟩ (ps.zip (g us ws)))
    (rel : ∀ {vs us zs ws}, Vals vs us → Vals zs ws → Vals (gV vs zs) (g us ws))
    (ha : PA X (e :: es) t) (hkw : PK X kws tk) (hdb : (x == ("__debug__" : Str)) = false)
    (hall : (backToKw pos (keywordEach kws X.env)).all (·.1.isSome) = true) (hks : (backToKw pos (keywordEach kws X.env)).filterMap (·.1) = ks)
    (he : starEach (e :: es) X.env = (false, eval e X.env) :: starEach es X.env)
    (hpl : ((backTo pos (starEach (e :: es) X.env)).any (·.1) || (backToKw pos (keywordEach kws X.env)).any (·.1.isNone)) = false) :
    PE X (.Call (.Name x p) (e :: es) kws pos) (fun σ H Q => t σ H fun vs H1 => vs.length = (e :: es).length ∧ tk σ H1 fun zs H2 => zs.length = ks.length ∧ sp (gV vs zs) H2 Q) := by
  refine ⟨fun pins s σ H Q I h => ?_⟩
  refine wpAny_Call_Name_kw (ld_glob I hg hm ?_ hdb)
  refine PySem.W.callWith_KW (h₀ := X.base) I.ok.mod.kin hk hall (thn (ha.run pos pins s σ H _ I h) fun us s1 ⟨vs, H1, I1, r, l1, q⟩ => ?_) hpl he
  refine thn (hkw.run pos pins s1 σ H1 _ I1 q) fun ws s2 ⟨zs, H2, I2, rz, l2, q2⟩ => ⟨I2.kIn, ?_⟩
  rw [hks]
  have r3 := rel r rz
  exact run_G2 G C I2 (hb s2 us ws (by rw [← r3.length]; exact G.len _ _ _ q2) (by rw [← rz.length]; exact l2) (by rw [← r.length]; exact l1)) r3 q2
/-- .. by name alone -/
theorem pe_cGk0 {x : Str} {kws : List Keyword} {p pos : Pos} {tk : TA} {ks : List Str} {g : List Value → List Value → List Value} {gV : List V → List V → List V}
    (G : FnG X.prog X.w X.K X.mg X.base n f fd ps sp) (C : Cal X n) (hg : Gl X x) (hm : X.mg x = some (.ref f)) (hk : PySem.W.keepIn X.K (.ref f) = true)
    (hb : ∀ (s : Shared) (us ws : List Value), (g us ws).length = ps.length → ws.length = ks.length → us.length = 0 → BindsTo s fd ⟨us, ks.zip ws⟩ (ps.zip (g us ws)))
    (rel : ∀ {vs us zs ws}, Vals vs us → Vals zs ws → Vals (gV vs zs) (g us ws))
    (hkw : PK X kws tk) (hdb : (x == ("__debug__" : Str)) = false)
    (hall : (backToKw pos (keywordEach kws X.env)).all (·.1.isSome) = true) (hks : (backToKw pos (keywordEach kws X.env)).filterMap (·.1) = ks)
    (hpl : ((backTo pos (starEach [] X.env)).any (·.1) || (backToKw pos (keywordEach kws X.env)).any (·.1.isNone)) = false) :
    PE X (.Call (.Name x p) [] kws pos) (fun σ H Q => tk σ H fun zs H2 => zs.length = ks.length ∧ sp (gV [] zs) H2 Q) := by
  refine ⟨fun pins s σ H Q I h => ?_⟩
  refine wpAny_Call_Name_kw (ld_glob I hg hm ?_ hdb)
  refine PySem.W.callWith_KW0 (h₀ := X.base) I.ok.mod.kin hk hall (thn (hkw.run pos pins s σ H _ I h) fun ws s2 ⟨zs, H2, I2, rz, l2, q2⟩ => ⟨I2.kIn, ?_⟩) hpl
  rw [hks]
  have r3 := rel (vs := []) (us := []) .nil rz
  exact run_G2 G C I2 (hb s2 [] ws (by rw [← r3.length]; exact G.len _ _ _ q2) (by rw [← rz.length]; exact l2) rfl) r3 q2
end

/-! ### the program -/
/-- the defs, the constants of the module, the built-ins whose names are free, the calls by name: (def, names, how many by place, for each parameter its place among the written ones) -/
structure Sg where
  tb : List (Str × Fn)
  gl : List (Str × PV)
  bs : List Str
  kcs : List (Str × List Str × Nat × List Nat)
noncomputable def Sg.ctx (g : Sg) (n : Nat) : Ctx := ⟨callF g.tb (fun x => g.gl.lookup x) n, fun x => g.gl.lookup x⟩
def spI (K : PySem.W.Frag) (g : Sg) (n : Nat) (f : Str) : List V → Hp → VK → Prop := fun vs H Q => ∃ F r st ps, Rel K F H r st ∧ Reps K F H r vs ps ∧ Post K F r H Q ((g.ctx n).fn f ps st)
structure Link (P : Program) (w : World) (K : PySem.W.Frag) (mg : Str → Option Value) (base : Heap) (g : Sg) (n : Nat) : Prop where
  fn : ∀ f fn, g.tb.lookup f = some fn → ∃ a fd, mg f = some (.ref a) ∧ PySem.W.keepIn K (.ref a) = true ∧ FnG P w K mg base n a fd fn.ps (spI K g n f) ∧
    (∀ (s : Shared) (us : List Value), us.length = fn.ps.length → BindsTo s fd ⟨us, []⟩ (fn.ps.zip us)) ∧
    ∀ ks np perm, (f, ks, np, perm) ∈ g.kcs → ∀ (s : Shared) (us ws : List Value), us.length = np → ws.length = ks.length → BindsTo s fd ⟨us, ks.zip ws⟩ (fn.ps.zip (perm.map fun i => (us ++ ws).getD i .none))
  gl : ∀ x p, g.gl.lookup x = some p → ∃ u v, mg x = some u ∧ RelV v u ∧ ∀ F H r, Rep K F H r v p
  bs : ∀ x, x ∈ g.bs → mg x = none
/-- where a piece of the language stands: sc the scope that runs, so as it is written -/
structure Std (X : Cx) (g : Sg) (n : Nat) (N : List Str) (sc so : Scope) : Prop where
  cal : Cal X n
  link : Link X.prog X.w X.K X.mg X.base g n
  eN : X.N = N
  nd : N.Nodup
  eS : X.env.scope = sc
  so : ∀ x, (so.names.lookup x = some .local ∨ so.names.lookup x = some .cell) → Loc sc x ∧ (X.fn x = true ∨ sc.names.lookup x = some .local)
  xe : X.xe = fun _ _ => False

/-! ### the text -/
/-- the forms that the language has -/
def okS : Expr → Bool
  | .BoolOp .. => true
  | .BinOp .. => true
  | .UnaryOp .. => true
  | .IfExp .. => true
  | .ListComp .. => true
  | .Compare .. => true
  | .Call .. => true
  | .Constant .. => true
  | .Subscript .. => true
  | .Name .. => true
  | .List .. => true
  | .Tuple .. => true
  | _ => false
def isLC : Expr → Bool
  | .ListComp .. => true
  | _ => false
theorem okS_star {e : Expr} (h : okS e = true) (es : List Expr) (env : PySem.Env) : starEach (e :: es) env = (false, eval e env) :: starEach es env := by
  cases e <;> first | rfl | cases h
theorem okS_ix {e : Expr} (h : okS e = true) : PlainIx e := by
  cases e <;> first | exact fun _ _ => rfl | cases h
theorem okS_set {e : Expr} (h : okS e = true) (env : PySem.Env) (x : Value) : foldedSetIterable e env x = pure x := by
  cases e <;> first | rfl | cases h
theorem okS_sw {e : Expr} (h : okS e = true) (h2 : isLC e = false) (t : Option Expr) (l : Nat) (env : PySem.Env) : swapsWith e t l env = pure false := by
  cases e <;> first | rfl | exact Bool.noConfusion h | exact Bool.noConfusion h2
theorem okS_in {e : Expr} (h : okS e = true) (op : CmpOp) : behindInMarks op e = false := by
  cases e <;> first | rfl | cases h
theorem okS_aug {e : Expr} (h : okS e = true) (ov iv new : Value) : augStore e ov iv new = (do holding [new, ov, iv] (setItem ov iv new); release [new, ov, iv] []; pure .next) := by
  cases e <;> first | rfl | cases h
theorem okS_asg {i : Expr} (h : okS i = true) (o : Expr) (pos : Pos) (env : PySem.Env) (v : Value) : assign (.Subscript o i pos) env v = (do
      let ov ← holding [v] (eval o env)
      let iv ← holding [v, ov] (eval i env)
      standAt pos
      holding [v, ov, iv] (setItem ov iv v)
      release [v, ov, iv] []) := by
  cases i <;> first | rfl | cases h
theorem okS_any {es : List Expr} (h : es.all okS = true) (pos : Pos) (env : PySem.Env) : (backTo pos (starEach es env)).any (·.1) = false := by
  induction es with
  | nil => rfl
  | cons e es ih =>
    simp only [List.all_cons, Bool.and_eq_true] at h
    rw [okS_star h.1]
    show (false || (backTo pos (starEach es env)).any (·.1)) = false
    rw [ih h.2, Bool.or_false]
def cstOk : PV → Const → Bool
  | .non, .none => true
  | .bl b, .bool c => b == c
  | .int i, .int j => i == j
  | .str s, .str t => s == t
  | _, _ => false
def vis (sc : Scope) (x : Str) : Bool := match sc.names.lookup x with
  | some .local => true
  | some .cell => true
  | some .free => true
  | _ => false
def loc (sc : Scope) (x : Str) : Bool := match sc.names.lookup x with
  | some .local => true
  | some .cell => true
  | _ => false
def glb (sc : Scope) (x : Str) : Bool := (match sc.names.lookup x with
  | some .globalImplicit => true
  | _ => false) && !(x == ("__debug__" : Str))
theorem vis_of {sc : Scope} {x : Str} (h : vis sc x = true) : Vis sc x := by
  unfold vis at h
  split at h
  · exact .inl (by assumption)
  · exact .inr (.inl (by assumption))
  · exact .inr (.inr (by assumption))
  · cases h
theorem loc_of {sc : Scope} {x : Str} (h : loc sc x = true) : sc.names.lookup x = some .local ∨ sc.names.lookup x = some .cell := by
  unfold loc at h
  split at h
  · exact .inl (by assumption)
  · exact .inr (by assumption)
  · cases h
theorem glb_of {sc : Scope} {x : Str} (h : glb sc x = true) : sc.names.lookup x = some .globalImplicit ∧ (x == ("__debug__" : Str)) = false := by
  unfold glb at h
  simp only [Bool.and_eq_true, Bool.not_eq_true'] at h
  refine ⟨?_, h.2⟩
  have := h.1
  split at this
  · assumption
  · cases this
def nmOk (N : List Str) (sc : Scope) (i : Nat) (x : Str) : Bool := decide (N[i]? = some x) && vis sc x && !(x == ("__debug__" : Str)) && !(x == ("__classdict__" : Str))
def ownL (N : List Str) (own : List Nat) : List (Str × Nat) := own.map fun i => (N.getD i "", i)
/-- a target, in the written scope so -/
def chkP (N : List Str) (so : Scope) : Pt → Expr → Bool
  | .n i, .Name x _ => decide (N[i]? = some x) && loc so x
  | .t2 a b, .Tuple [x, y] _ _ => chkP N so a x && chkP N so b y
  | .t3 a b c, .Tuple [x, y, z] _ _ => chkP N so a x && chkP N so b y && chkP N so c z
  | .t4 a b c d, .Tuple [x, y, z, u] _ _ => chkP N so a x && chkP N so b y && chkP N so c z && chkP N so d u
  | .t5 a b c d e, .Tuple [x, y, z, u, v] _ _ => chkP N so a x && chkP N so b y && chkP N so c z && chkP N so d u && chkP N so e v
  | _, _ => false
def tyNames : List String := ["int", "bool", "str", "tuple", "list"]
def kwNames : List Keyword → List Str
  | [] => []
  | ⟨some k, _, _⟩ :: r => k :: kwNames r
  | ⟨none, _, _⟩ :: r => kwNames r
def isTgT : Expr → Bool
  | .Tuple .. => true
  | _ => false
def needsT : Ix → Bool
  | .zip .. => true
  | .enm .. => true
  | _ => false
mutual
def chkE (g : Sg) (N : List Str) (sc : Scope) : Ex → Expr → Bool
  | .c v, .Constant k _ _ => cstOk v k
  | .v i, .Name x _ => nmOk N sc i x
  | .g y, .Name x _ => decide (x = y) && glb sc x && (g.gl.lookup x).isSome
  | .bin o _ a b, .BinOp ea op eb _ => decide (op = opB o) && chkE g N sc a ea && chkE g N sc b eb
  | .neg a, .UnaryOp .USub ea _ => chkE g N sc a ea
  | .nt a, .UnaryOp .Not ea _ => chkE g N sc a ea
  | .cmp o a b, .Compare ea [op] [eb] _ => decide (op = opC o) && chkE g N sc a ea && chkE g N sc b eb
  | .chn o o2 a b c, .Compare ea [op, op2] [eb, ec] _ => decide (op = opC o) && decide (op2 = opC o2) && chkE g N sc a ea && chkE g N sc b eb && chkE g N sc c ec
  | .ands es, .BoolOp .And ees _ => decide (2 ≤ ees.length) && chkEs g N sc es ees
  | .ors es, .BoolOp .Or ees _ => decide (2 ≤ ees.length) && chkEs g N sc es ees
  | .ite c a b, .IfExp ec ea eb _ => chkE g N sc c ec && chkE g N sc a ea && chkE g N sc b eb
  | .tup es, .Tuple ees _ _ => chkEs g N sc es ees
  | .lst _ es, .List ees _ => chkEs g N sc es ees
  | .ix a b, .Subscript ea eb _ => chkE g N sc a ea && chkE g N sc b eb
  | .slA _ a lo hi, .Subscript ea (.Slice (some el) (some eh) none _) _ => chkE g N sc a ea && chkE g N sc lo el && chkE g N sc hi eh
  | .slF _ a lo, .Subscript ea (.Slice (some el) none none _) _ => chkE g N sc a ea && chkE g N sc lo el
  | .slT _ a hi, .Subscript ea (.Slice none (some eh) none _) _ => chkE g N sc a ea && chkE g N sc hi eh
  | .call f es, .Call (.Name x _) (a :: ees) [] _ => decide (x = f) && glb sc x && (g.tb.lookup f).isSome && chkEs g N sc es (a :: ees)
  | .callk f es ks perm, .Call (.Name x _) ees kws _ => decide (x = f) && glb sc x && (g.tb.lookup f).isSome && kws.all (fun k => k.arg.isSome) && !kws.isEmpty && decide ((f, kwNames kws, ees.length, perm) ∈ g.kcs) && chkEs g N sc es ees && chkEs g N sc ks (kws.map (·.value))
  | .bi f _ es, .Call (.Name x _) (a :: ees) [] _ => decide (x = biName f) && glb sc x && decide (x ∈ g.bs) && chkEs g N sc es (a :: ees)
  | .isi e T, .Call (.Name x _) [ee, .Name t _] [] _ => decide (x = ("isinstance" : Str)) && glb sc x && decide (x ∈ g.bs) && decide (t = Str.ofString T) && glb sc t && decide (t ∈ g.bs) && decide (T ∈ tyNames) && chkE g N sc e ee
  | .me m i es, .Call (.Attribute (.Name y _) x apos) ees [] cpos => nmOk N sc i y && decide (x = meName m) && (apos.endLine == cpos.line) && decide (ees.length ≤ 1) && chkEs g N sc es ees
  | .lc _ own p it cs e, .ListComp elt [⟨tg, iter, ifs, 0⟩] scope _ => blkC N sc scope (ownL N own) && chkI g N sc it iter && okS iter && (!needsT it || isTgT tg) && decide (∀ i ∈ p.slots, i ∈ own) && chkP N scope p tg && decide (ifs.length ≤ 1) && chkEs g N (relS scope sc) cs ifs && chkE g N (relS scope sc) e elt
  | .lc2 _ own p it cs vs2 p2 it2 cs2 e, .ListComp elt [⟨tg, iter, ifs, 0⟩, ⟨tg2, iter2, ifs2, 0⟩] scope _ => blkC N sc scope (ownL N own) && chkI g N sc it iter && okS iter && (!needsT it || isTgT tg) && decide (∀ i ∈ p.slots, i ∈ own) && chkP N scope p tg && decide (ifs.length ≤ 1) && chkEs g N (relS scope sc) cs ifs &&
      decide (∀ i ∈ vs2, i ∈ own) && chkI g N (relS scope sc) it2 iter2 && okS iter2 && (!needsT it2 || isTgT tg2) && decide (∀ i ∈ p2.slots, i ∈ vs2) && chkP N scope p2 tg2 && decide (ifs2.length ≤ 1) && chkEs g N (relS scope sc) cs2 ifs2 && chkE g N (relS scope sc) e elt
  | _, _ => false
def chkEs (g : Sg) (N : List Str) (sc : Scope) : Exs → List Expr → Bool
  | .nil, [] => true
  | .cons e es, ee :: ees => okS ee && chkE g N sc e ee && chkEs g N sc es ees
  | _, _ => false
def chkI (g : Sg) (N : List Str) (sc : Scope) : Ix → Expr → Bool
  | .rng1 a, .Call (.Name x _) [ea] [] _ => decide (x = ("range" : Str)) && glb sc x && decide (x ∈ g.bs) && okS ea && chkE g N sc a ea
  | .rng2 a b, .Call (.Name x _) [ea, eb] [] _ => decide (x = ("range" : Str)) && glb sc x && decide (x ∈ g.bs) && okS ea && okS eb && chkE g N sc a ea && chkE g N sc b eb
  | .rng3 a b c, .Call (.Name x _) [ea, eb, .UnaryOp .USub (.Constant (.int k) _ _) _] [] _ => decide (x = ("range" : Str)) && glb sc x && decide (x ∈ g.bs) && okS ea && okS eb && decide (c = -k) && chkE g N sc a ea && chkE g N sc b eb
  | .zip a b, .Call (.Name x _) [ea, eb] [] _ => decide (x = ("zip" : Str)) && glb sc x && decide (x ∈ g.bs) && okS ea && okS eb && chkE g N sc a ea && chkE g N sc b eb
  | .enm a, .Call (.Name x _) [ea] [] _ => decide (x = ("enumerate" : Str)) && glb sc x && decide (x ∈ g.bs) && okS ea && chkE g N sc a ea
  | .val e, ee => okS ee && chkE g N sc e ee
  | _, _ => false
end
end L2.Iv

/-! IvE: targets, what a loop walks, comprehensions: readings. Own work. -/
namespace L2.Iv
open PySem PySem.Spec PyProof.Rows

section
variable {K : PySem.W.Frag} {F F2 : List Addr} {H H' : Hp} {r r' : List Addr} {st : Store} {v : V} {p : PV} {vs : List V} {ps : List PV} {env : Env} {σ : St}
/-- later on, what is shut may have changed -/
structure AftF (F : List Addr) (r : List Addr) (H : Hp) (r' : List Addr) (H' : Hp) : Prop where
  pre : ∃ r2, r' = r ++ r2
  keep : ∀ a o, H a = some o → a ∉ r → a ∉ F → H' a = some o ∧ a ∉ r'
theorem Aft.toF (A : Aft r H r' H') : AftF F r H r' H' := ⟨A.pre, fun a o e n _ => A.keep a o e n⟩
theorem AftF.trans {r1 r2 : List Addr} {H1 H2 : Hp} (a : AftF F r H r1 H1) (b : AftF F r1 H1 r2 H2) : AftF F r H r2 H2 := by
  obtain ⟨x, e1⟩ := a.pre
  obtain ⟨y, e2⟩ := b.pre
  refine ⟨⟨x ++ y, by rw [e2, e1, List.append_assoc]⟩, fun c o e n m => ?_⟩
  obtain ⟨q1, q2⟩ := a.keep c o e n m
  exact b.keep c o q1 q2 m
theorem AftF.get {i : Nat} {a : Addr} (x : AftF F r H r' H') (e : r[i]? = some a) : r'[i]? = some a := by
  obtain ⟨y, e1⟩ := x.pre
  rw [e1, List.getElem?_append_left (List.getElem?_eq_some_iff.mp e).1]
  exact e
theorem AftF.less (A : AftF F2 r H r' H') (h : ∀ b ∈ F2, b ∈ F) : AftF F r H r' H' := ⟨A.pre, fun a o e n m => A.keep a o e n fun z => m (h a z)⟩
theorem Rel.notF (R : Rel K F H r st) {a : Addr} {o : HO} (h : H a = some o) (n : ∀ vs, o ≠ .lst vs) : a ∉ F := fun m => by
  obtain ⟨vs, e⟩ := R.fs a m
  rw [h] at e; cases e; exact n vs rfl
theorem SqT.aftF {a : Addr} (R : Rel K F H r st) (A : AftF F r H r' H') (h : SqT K H a vs) : SqT K H' a vs := by
  rcases h with (h | ⟨o, h⟩) | h
  · exact .inl (.inl (A.keep a _ h (R.notin h (fun _ z => nomatch z)) (R.notF h (fun _ z => nomatch z))).1)
  · exact .inl (.inr ⟨o, (A.keep a _ h (R.notin h (fun _ z => nomatch z)) (R.notF h (fun _ z => nomatch z))).1⟩)
  · exact .inr h
/-- later on, with more that is shut -/
theorem SqF.aft2 {a : Addr} (R : Rel K F H r st) (A : AftF F r H r' H') (hF : ∀ b ∈ F2, b ∈ F ∨ H b = none) (h : SqF K F H r a vs) : SqF K F2 H' r' a vs := by
  rcases h with ⟨h, n1, n2⟩ | ⟨o, h⟩ | h
  · refine .inl ⟨(A.keep a _ h n1 n2).1, (A.keep a _ h n1 n2).2, fun m => ?_⟩
    rcases hF a m with z | z
    · exact n2 z
    · rw [h] at z; cases z
  · exact .inr (.inl ⟨o, (A.keep a _ h (R.notin h (fun _ z => nomatch z)) (R.notF h (fun _ z => nomatch z))).1⟩)
  · exact .inr (.inr h)
mutual
theorem Rep.aft2 (R : Rel K F H r st) (A : AftF F r H r' H') (hF : ∀ b ∈ F2, b ∈ F ∨ H b = none) : ∀ {v : V} {p : PV}, Rep K F H r v p → Rep K F2 H' r' v p
  | _, _, .non => .non
  | _, _, .bl b => .bl b
  | _, _, .int i => .int i
  | _, _, .str x => .str x
  | _, _, .lsv h q => .lsv (h.aft2 R A hF) (Reps.aft2 R A hF q)
  | _, _, .tup h q => .tup (SqT.aftF R A h) (Reps.aft2 R A hF q)
  | _, _, .loc e => .loc (A.get e)
theorem Reps.aft2 (R : Rel K F H r st) (A : AftF F r H r' H') (hF : ∀ b ∈ F2, b ∈ F ∨ H b = none) : ∀ {vs : List V} {ps : List PV}, Reps K F H r vs ps → Reps K F2 H' r' vs ps
  | _, _, .nil => .nil
  | _, _, .cons h q => .cons (Rep.aft2 R A hF h) (Reps.aft2 R A hF q)
end
theorem EnvRel.aft2 (R : Rel K F H r st) (A : AftF F r H r' H') (hF : ∀ b ∈ F2, b ∈ F ∨ H b = none) (e : EnvRel K F H r env σ) : EnvRel K F2 H' r' env σ :=
  ⟨e.len, fun i p h => let ⟨v, h1, h2⟩ := e.get i p h; ⟨v, h1, h2.aft2 R A hF⟩⟩
/-- less is shut -/
theorem SqF.less {a : Addr} (hF : ∀ b ∈ F2, b ∈ F) (h : SqF K F H r a vs) : SqF K F2 H r a vs := by
  rcases h with ⟨h, n1, n2⟩ | h | h
  · exact .inl ⟨h, n1, fun m => n2 (hF a m)⟩
  · exact .inr (.inl h)
  · exact .inr (.inr h)
mutual
theorem Rep.less (hF : ∀ b ∈ F2, b ∈ F) : ∀ {v : V} {p : PV}, Rep K F H r v p → Rep K F2 H r v p
  | _, _, .non => .non
  | _, _, .bl b => .bl b
  | _, _, .int i => .int i
  | _, _, .str x => .str x
  | _, _, .lsv h q => .lsv (h.less hF) (Reps.less hF q)
  | _, _, .tup h q => .tup h (Reps.less hF q)
  | _, _, .loc e => .loc e
theorem Reps.less (hF : ∀ b ∈ F2, b ∈ F) : ∀ {vs : List V} {ps : List PV}, Reps K F H r vs ps → Reps K F2 H r vs ps
  | _, _, .nil => .nil
  | _, _, .cons h q => .cons (Rep.less hF h) (Reps.less hF q)
end
theorem Rel.less (R : Rel K F H r st) (hF : ∀ b ∈ F2, b ∈ F) : Rel K F2 H r st :=
  ⟨R.len, R.nd, fun i a xs e1 e2 => let ⟨vs, h1, h2⟩ := R.cells i a xs e1 e2; ⟨vs, h1, h2.less hF⟩, fun a ha m => R.apart a ha (hF a m), fun a ha => R.fs a (hF a ha)⟩
theorem EnvRel.less (e : EnvRel K F H r env σ) (hF : ∀ b ∈ F2, b ∈ F) : EnvRel K F2 H r env σ :=
  ⟨e.len, fun i p h => let ⟨v, h1, h2⟩ := e.get i p h; ⟨v, h1, h2.less hF⟩⟩
/-- a new list that is shut while it grows -/
theorem Rel.shut (R : Rel K F H r st) {D : Addr} (h : H D = none) : Rel K (D :: F) (upd H D (.lst [])) r st := by
  have hF : ∀ b ∈ D :: F, b ∈ F ∨ H b = none := fun b hb => by
    rcases List.mem_cons.mp hb with rfl | hb
    · exact .inr h
    · exact .inl hb
  refine ⟨R.len, R.nd, fun i a xs e1 e2 => ?_, fun a ha m => ?_, fun a ha => ?_⟩
  · obtain ⟨vs, h1, h2⟩ := R.cells i a xs e1 e2
    exact ⟨vs, by rw [upd_ne (ne_of_none h1 h)]; exact h1, h2.aft2 R (Aft.toF (.new h)) hF⟩
  · rcases List.mem_cons.mp m with rfl | m
    · exact (R.fresh h).1 ha
    · exact R.apart a ha m
  · rcases List.mem_cons.mp ha with rfl | ha
    · exact ⟨[], upd_same⟩
    · obtain ⟨vs, e⟩ := R.fs a ha
      exact ⟨vs, by rw [upd_ne (ne_of_none e h)]; exact e⟩
/-- what is shut is written -/
theorem SqF.wr {a D : Addr} {o : HO} {ws : List V} (hD : D ∈ F) (hl : H D = some (.lst ws)) (h : SqF K F H r a vs) : SqF K F (upd H D o) r a vs := by
  rcases h with ⟨h, n1, n2⟩ | ⟨u, h⟩ | h
  · exact .inl ⟨by rw [upd_ne (by rintro rfl; exact n2 hD)]; exact h, n1, n2⟩
  · exact .inr (.inl ⟨u, by rw [upd_ne (by rintro rfl; rw [hl] at h; cases h)]; exact h⟩)
  · exact .inr (.inr h)
theorem SqT.wr {a D : Addr} {o : HO} {ws : List V} (hl : H D = some (.lst ws)) (h : SqT K H a vs) : SqT K (upd H D o) a vs := by
  rcases h with (h | ⟨u, h⟩) | h
  · exact .inl (.inl (by rw [upd_ne (by rintro rfl; rw [hl] at h; cases h)]; exact h))
  · exact .inl (.inr ⟨u, by rw [upd_ne (by rintro rfl; rw [hl] at h; cases h)]; exact h⟩)
  · exact .inr h
mutual
theorem Rep.wr {D : Addr} {o : HO} {ws : List V} (hD : D ∈ F) (hl : H D = some (.lst ws)) : ∀ {v : V} {p : PV}, Rep K F H r v p → Rep K F (upd H D o) r v p
  | _, _, .non => .non
  | _, _, .bl b => .bl b
  | _, _, .int i => .int i
  | _, _, .str x => .str x
  | _, _, .lsv h q => .lsv (h.wr hD hl) (Reps.wr hD hl q)
  | _, _, .tup h q => .tup (SqT.wr hl h) (Reps.wr hD hl q)
  | _, _, .loc e => .loc e
theorem Reps.wr {D : Addr} {o : HO} {ws : List V} (hD : D ∈ F) (hl : H D = some (.lst ws)) : ∀ {vs : List V} {ps : List PV}, Reps K F H r vs ps → Reps K F (upd H D o) r vs ps
  | _, _, .nil => .nil
  | _, _, .cons h q => .cons (Rep.wr hD hl h) (Reps.wr hD hl q)
end
theorem Rel.wr (R : Rel K F H r st) {D : Addr} {ws us : List V} (hD : D ∈ F) (hl : H D = some (.lst ws)) : Rel K F (upd H D (.lst us)) r st := by
  refine ⟨R.len, R.nd, fun i a xs e1 e2 => ?_, R.apart, fun a ha => ?_⟩
  · obtain ⟨vs, h1, h2⟩ := R.cells i a xs e1 e2
    have ne : a ≠ D := by
      rintro rfl
      exact R.apart _ (List.mem_of_getElem? e1) hD
    exact ⟨vs, by rw [upd_ne ne]; exact h1, h2.wr hD hl⟩
  · by_cases ne : a = D
    · subst ne; exact ⟨us, upd_same⟩
    · obtain ⟨vs, e⟩ := R.fs a ha
      exact ⟨vs, by rw [upd_ne ne]; exact e⟩
theorem EnvRel.wr {D : Addr} {ws us : List V} (e : EnvRel K F H r env σ) (hD : D ∈ F) (hl : H D = some (.lst ws)) : EnvRel K F (upd H D (.lst us)) r env σ :=
  ⟨e.len, fun i p h => let ⟨v, h1, h2⟩ := e.get i p h; ⟨v, h1, h2.wr hD hl⟩⟩
end

/-! ### targets -/
theorem wipe_set_in (σ : St) (x : Option V) : ∀ (vs : List Nat) (i : Nat), i ∈ vs → wipe (σ.set i x) vs = wipe σ vs
  | [], _, h => by cases h
  | v :: vs, i, h => by
    have comm : ∀ (ws : List Nat) (τ : St), wipe (τ.set i x) ws = wipe τ ws ∨ wipe (τ.set i x) ws = (wipe τ ws).set i x := by
      intro ws
      induction ws with
      | nil => intro τ; exact .inr rfl
      | cons a ws ih =>
        intro τ
        show (wipe (τ.set i x) ws).set a none = (wipe τ ws).set a none ∨ (wipe (τ.set i x) ws).set a none = ((wipe τ ws).set a none).set i x
        rcases ih τ with e | e
        · rw [e]; exact .inl rfl
        · rw [e]
          by_cases ha : a = i
          · subst ha; rw [List.set_set]; exact .inl rfl
          · exact .inr (List.set_comm _ _ (Ne.symm ha))
    show (wipe (σ.set i x) vs).set v none = (wipe σ vs).set v none
    by_cases hv : v = i
    · subst hv
      rcases comm vs σ with e | e
      · rw [e]
      · rw [e, List.set_set]
    · have hi : i ∈ vs := by
        rcases List.mem_cons.mp h with e | h
        · exact absurd e.symm hv
        · exact h
      rw [wipe_set_in σ x vs i hi]
def gI (K : PySem.W.Frag) (F : List Addr) (p : Pt) : TG := fun v σ H Q => ∃ r st env q env', Rel K F H r st ∧ EnvRel K F H r env σ ∧ Rep K F H r v q ∧ asgP p q env = some env' ∧
  ∀ σ', EnvRel K F H r env' σ' → (∀ vs : List Nat, (∀ i ∈ p.slots, i ∈ vs) → wipe σ' vs = wipe σ vs) → Q σ' H
theorem PG.imp {X : Cx} {e : Expr} {t t' : TG} (h : PG X e t) (i : ∀ v σ H Q, t' v σ H Q → t v σ H Q) : PG X e t' := ⟨fun pins s σ H v u Q I r q => h.run pins s σ H v u Q I r (i _ _ _ _ q)⟩
section
variable {X : Cx} {g : Sg} {n : Nat} {N : List Str} {sc so : Scope}
theorem pg_I (S : Std X g n N sc so) (F : List Addr) : ∀ (p : Pt) (e : Expr), chkP N so p e = true → PG X e (gI X.K F p) ∧ (∀ es env, assignEach (e :: es) env = (false, assign e env) :: assignEach es env) := by
  intro p
  induction p with
  | n i =>
    intro e h
    cases e <;> first | (cases h; done) | skip
    rename_i x pos
    simp only [chkP, Bool.and_eq_true, decide_eq_true_eq] at h
    obtain ⟨hl, hf⟩ := S.so x (loc_of h.2)
    have hN : X.N.Nodup := by rw [S.eN]; exact S.nd
    refine ⟨PG.imp (pg_name hN (by rw [S.eN]; exact h.1) (by rw [S.eS]; exact hl) (by rw [S.eS]; exact hf)) fun v σ H Q q => ?_, fun _ _ => rfl⟩
    obtain ⟨r, st, env, q, env', R, E, hv, e1, h⟩ := q
    cases e1
    exact h _ (E.set i hv) fun vs hvs => wipe_set_in σ _ vs i (hvs i (by simp [Pt.slots]))
  | t2 a b iha ihb =>
    intro e h
    cases e <;> first | (cases h; done) | skip
    rename_i es k pos
    match es, h with
    | [x, y], h =>
      simp only [chkP, Bool.and_eq_true] at h
      obtain ⟨g1, a1⟩ := iha x h.1
      obtain ⟨g2, a2⟩ := ihb y h.2
      refine ⟨PG.imp (pg_tup S.cal.calm (pgs_cons g1 (pgs_cons g2 pgs_nil (by rw [a2]; rfl)) (by rw [a1]; rfl)) (n := 2) (by rw [a1, a2]; rfl) (by rw [a1, a2]; rfl)) fun v σ H Q q => ?_, fun _ _ => rfl⟩
      obtain ⟨r, st, env, q, env', R, E, hv, e1, h⟩ := q
      cases hv with
      | @tup ad vs ds hs hq =>
        match ds, e1, hq with
        | [p1, p2], e1, hq =>
          simp only [asgP, Option.bind_eq_some_iff] at e1
          obtain ⟨env1, e1, e2⟩ := e1
          refine ⟨ad, vs, rfl, hs, hq.length, ?_⟩
          cases hq with | cons h1 hq => cases hq with | cons h2 hq =>
          cases hq
          refine ⟨_, _, rfl, r, st, env, p1, env1, R, E, h1, e1, fun σ1 E1 w1 => ⟨_, _, rfl, r, st, env1, p2, env', R, E1, h2, e2, fun σ2 E2 w2 => ⟨rfl, h σ2 E2 fun vs hvs => ?_⟩⟩⟩
          rw [w2 vs fun i hi => hvs i (by simp [Pt.slots, hi]), w1 vs fun i hi => hvs i (by simp [Pt.slots, hi])]
        | [], e1, _ => cases e1
        | [_], e1, _ => cases e1
        | _ :: _ :: _ :: _, e1, _ => cases e1
      | _ => cases e1
    | [], h => cases h
    | [_], h => cases h
    | _ :: _ :: _ :: _, h => cases h
  | t3 a b c iha ihb ihc =>
    intro e h
    cases e <;> first | (cases h; done) | skip
    rename_i es k pos
    match es, h with
    | [x, y, z], h =>
      simp only [chkP, Bool.and_eq_true] at h
      obtain ⟨g1, a1⟩ := iha x h.1.1
      obtain ⟨g2, a2⟩ := ihb y h.1.2
      obtain ⟨g3, a3⟩ := ihc z h.2
      refine ⟨PG.imp (pg_tup S.cal.calm (pgs_cons g1 (pgs_cons g2 (pgs_cons g3 pgs_nil (by rw [a3]; rfl)) (by rw [a2]; rfl)) (by rw [a1]; rfl)) (n := 3) (by rw [a1, a2, a3]; rfl) (by rw [a1, a2, a3]; rfl)) fun v σ H Q q => ?_, fun _ _ => rfl⟩
      obtain ⟨r, st, env, q, env', R, E, hv, e1, h⟩ := q
      cases hv with
      | @tup ad vs ds hs hq =>
        match ds, e1, hq with
        | [p1, p2, p3], e1, hq =>
          simp only [asgP, Option.bind_eq_some_iff] at e1
          obtain ⟨env2, ⟨env1, e1, e2⟩, e3⟩ := e1
          refine ⟨ad, vs, rfl, hs, hq.length, ?_⟩
          cases hq with | cons h1 hq => cases hq with | cons h2 hq => cases hq with | cons h3 hq =>
          cases hq
          refine ⟨_, _, rfl, r, st, env, p1, env1, R, E, h1, e1, fun σ1 E1 w1 => ⟨_, _, rfl, r, st, env1, p2, env2, R, E1, h2, e2, fun σ2 E2 w2 => ⟨_, _, rfl, r, st, env2, p3, env', R, E2, h3, e3, fun σ3 E3 w3 => ⟨rfl, h σ3 E3 fun vs hvs => ?_⟩⟩⟩⟩
          rw [w3 vs fun i hi => hvs i (by simp [Pt.slots, hi]), w2 vs fun i hi => hvs i (by simp [Pt.slots, hi]), w1 vs fun i hi => hvs i (by simp [Pt.slots, hi])]
        | [], e1, _ => cases e1
        | [_], e1, _ => cases e1
        | [_, _], e1, _ => cases e1
        | _ :: _ :: _ :: _ :: _, e1, _ => cases e1
      | _ => cases e1
    | [], h => cases h
    | [_], h => cases h
    | [_, _], h => cases h
    | _ :: _ :: _ :: _ :: _, h => cases h
  | t4 a b c d iha ihb ihc ihd =>
    intro e h
    cases e <;> first | (cases h; done) | skip
    rename_i es k pos
    match es, h with
    | [x, y, z, u], h =>
      simp only [chkP, Bool.and_eq_true] at h
      obtain ⟨g1, a1⟩ := iha x h.1.1.1
      obtain ⟨g2, a2⟩ := ihb y h.1.1.2
      obtain ⟨g3, a3⟩ := ihc z h.1.2
      obtain ⟨g4, a4⟩ := ihd u h.2
      refine ⟨PG.imp (pg_tup S.cal.calm (pgs_cons g1 (pgs_cons g2 (pgs_cons g3 (pgs_cons g4 pgs_nil (by rw [a4]; rfl)) (by rw [a3]; rfl)) (by rw [a2]; rfl)) (by rw [a1]; rfl)) (n := 4) (by rw [a1, a2, a3, a4]; rfl) (by rw [a1, a2, a3, a4]; rfl)) fun v σ H Q q => ?_, fun _ _ => rfl⟩
      obtain ⟨r, st, env, q, env', R, E, hv, e1, h⟩ := q
      cases hv with
      | @tup ad vs ds hs hq =>
        match ds, e1, hq with
        | [p1, p2, p3, p4], e1, hq =>
          simp only [asgP, Option.bind_eq_some_iff] at e1
          obtain ⟨env3, ⟨env2, ⟨env1, e1, e2⟩, e3⟩, e4⟩ := e1
          refine ⟨ad, vs, rfl, hs, hq.length, ?_⟩
          cases hq with | cons h1 hq => cases hq with | cons h2 hq => cases hq with | cons h3 hq => cases hq with | cons h4 hq =>
          cases hq
          refine ⟨_, _, rfl, r, st, env, p1, env1, R, E, h1, e1, fun σ1 E1 w1 => ⟨_, _, rfl, r, st, env1, p2, env2, R, E1, h2, e2, fun σ2 E2 w2 => ⟨_, _, rfl, r, st, env2, p3, env3, R, E2, h3, e3, fun σ3 E3 w3 => ⟨_, _, rfl, r, st, env3, p4, env', R, E3, h4, e4, fun σ4 E4 w4 => ⟨rfl, h σ4 E4 fun vs hvs => ?_⟩⟩⟩⟩⟩
          rw [w4 vs fun i hi => hvs i (by simp [Pt.slots, hi]), w3 vs fun i hi => hvs i (by simp [Pt.slots, hi]), w2 vs fun i hi => hvs i (by simp [Pt.slots, hi]), w1 vs fun i hi => hvs i (by simp [Pt.slots, hi])]
        | [], e1, _ => cases e1
        | [_], e1, _ => cases e1
        | [_, _], e1, _ => cases e1
        | [_, _, _], e1, _ => cases e1
        | _ :: _ :: _ :: _ :: _ :: _, e1, _ => cases e1
      | _ => cases e1
    | [], h => cases h
    | [_], h => cases h
    | [_, _], h => cases h
    | [_, _, _], h => cases h
    | _ :: _ :: _ :: _ :: _ :: _, h => cases h
  | t5 a b c d f iha ihb ihc ihd ihf =>
    intro e h
    cases e <;> first | (cases h; done) | skip
    rename_i es k pos
    match es, h with
    | [x, y, z, u, w], h =>
      simp only [chkP, Bool.and_eq_true] at h
      obtain ⟨g1, a1⟩ := iha x h.1.1.1.1
      obtain ⟨g2, a2⟩ := ihb y h.1.1.1.2
      obtain ⟨g3, a3⟩ := ihc z h.1.1.2
      obtain ⟨g4, a4⟩ := ihd u h.1.2
      obtain ⟨g5, a5⟩ := ihf w h.2
      refine ⟨PG.imp (pg_tup S.cal.calm (pgs_cons g1 (pgs_cons g2 (pgs_cons g3 (pgs_cons g4 (pgs_cons g5 pgs_nil (by rw [a5]; rfl)) (by rw [a4]; rfl)) (by rw [a3]; rfl)) (by rw [a2]; rfl)) (by rw [a1]; rfl)) (n := 5) (by rw [a1, a2, a3, a4, a5]; rfl) (by rw [a1, a2, a3, a4, a5]; rfl)) fun v σ H Q q => ?_, fun _ _ => rfl⟩
      obtain ⟨r, st, env, q, env', R, E, hv, e1, h⟩ := q
      cases hv with
      | @tup ad vs ds hs hq =>
        match ds, e1, hq with
        | [p1, p2, p3, p4, p5], e1, hq =>
          simp only [asgP, Option.bind_eq_some_iff] at e1
          obtain ⟨env4, ⟨env3, ⟨env2, ⟨env1, e1, e2⟩, e3⟩, e4⟩, e5⟩ := e1
          refine ⟨ad, vs, rfl, hs, hq.length, ?_⟩
          cases hq with | cons h1 hq => cases hq with | cons h2 hq => cases hq with | cons h3 hq => cases hq with | cons h4 hq => cases hq with | cons h5 hq =>
          cases hq
          refine ⟨_, _, rfl, r, st, env, p1, env1, R, E, h1, e1, fun σ1 E1 w1 => ⟨_, _, rfl, r, st, env1, p2, env2, R, E1, h2, e2, fun σ2 E2 w2 => ⟨_, _, rfl, r, st, env2, p3, env3, R, E2, h3, e3, fun σ3 E3 w3 => ⟨_, _, rfl, r, st, env3, p4, env4, R, E3, h4, e4, fun σ4 E4 w4 => ⟨_, _, rfl, r, st, env4, p5, env', R, E4, h5, e5, fun σ5 E5 w5 => ⟨rfl, h σ5 E5 fun vs hvs => ?_⟩⟩⟩⟩⟩⟩
          rw [w5 vs fun i hi => hvs i (by simp [Pt.slots, hi]), w4 vs fun i hi => hvs i (by simp [Pt.slots, hi]), w3 vs fun i hi => hvs i (by simp [Pt.slots, hi]), w2 vs fun i hi => hvs i (by simp [Pt.slots, hi]), w1 vs fun i hi => hvs i (by simp [Pt.slots, hi])]
        | [], e1, _ => cases e1
        | [_], e1, _ => cases e1
        | [_, _], e1, _ => cases e1
        | [_, _, _], e1, _ => cases e1
        | [_, _, _, _], e1, _ => cases e1
        | _ :: _ :: _ :: _ :: _ :: _ :: _, e1, _ => cases e1
      | _ => cases e1
    | [], h => cases h
    | [_], h => cases h
    | [_, _], h => cases h
    | [_, _, _], h => cases h
    | [_, _, _, _], h => cases h
    | _ :: _ :: _ :: _ :: _ :: _ :: _, h => cases h
end

/-! ### what is walked -/
/-- the iterator J gives these items one by one, whatever else happens, while what is watched stands -/
def JOk (K : PySem.W.Frag) (F : List Addr) (J : It) (xs : List PV) (w : Watch) (r0 : List Addr) (H0 : Hp) : Prop :=
  ∀ (F2 : List Addr) (i : Nat) (H : Hp) (r : List Addr) (st : Store), (∀ b ∈ F2, b ∈ F ∨ H0 b = none) → AftF F r0 H0 r H → Rel K F2 H r st → watchOk w st →
    (∀ p, xs[i]? = some p → J.go i H ∧ ∀ x H', J.yld i H x H' → Aft r H r H' ∧ Rel K F2 H' r st ∧ Rep K F2 H' r x p) ∧ (xs.length ≤ i → J.stop i H)
def PostI (K : PySem.W.Frag) (F : List Addr) (r : List Addr) (H : Hp) (R : It → Hp → Prop) : Out (List PV × Watch) → Prop
  | .ok xw st' => ∀ H' r' J, Aft r H r' H' → Rel K F H' r' st' → JOk K F J xw.1 xw.2 r' H' → R J H'
  | _ => False
theorem PostI.aft {K : PySem.W.Frag} {F : List Addr} {H H' : Hp} {r r' : List Addr} {R : It → Hp → Prop} {o : Out (List PV × Watch)} (h : PostI K F r H R o) (A : Aft r H r' H') : PostI K F r' H' R o := by
  cases o with
  | ok p st' => exact fun H2 r2 J A2 => h H2 r2 J (A.trans A2)
  | exc => exact h.elim
  | bad => exact h.elim
def iI (K : PySem.W.Frag) (F : List Addr) (o : Env → Store → Out (List PV × Watch)) : TI := fun σ H R => ∃ r env st, Rel K F H r st ∧ EnvRel K F H r env σ ∧ PostI K F r H R (o env st)
section
variable {K : PySem.W.Frag} {F : List Addr} {H : Hp} {r : List Addr} {st : Store} {a b : Addr} {vs ws : List V} {xs ys : List PV}
theorem JOk.tup (R : Rel K F H r st) (h : SqT K H a vs) (q : Reps K F H r vs xs) : JOk K F (Itt K a) xs [] r H := by
  intro F2 i H1 r1 st1 hF A R1 _
  have h1 := SqT.aftF R A h
  have q1 := Reps.aft2 R A hF q
  refine ⟨fun p e => ?_, fun hl => ⟨vs, h1, by rw [q1.length]; exact hl⟩⟩
  obtain ⟨v, e1, e2⟩ := q1.get2 e
  refine ⟨⟨vs, v, h1, e1⟩, fun x H' y => ?_⟩
  obtain ⟨rfl, y⟩ := y
  have e3 := y vs h1
  rw [e1] at e3; cases e3
  exact ⟨.refl, R1, e2⟩
theorem JOk.lsv (R : Rel K F H r st) (h : SqF K F H r a vs) (q : Reps K F H r vs xs) : JOk K F (Itl K a) xs [] r H := by
  intro F2 i H1 r1 st1 hF A R1 _
  have h1 := (SqF.aft2 R A hF h).seq
  have q1 := Reps.aft2 R A hF q
  refine ⟨fun p e => ?_, fun hl => ⟨vs, h1, by rw [q1.length]; exact hl⟩⟩
  obtain ⟨v, e1, e2⟩ := q1.get2 e
  refine ⟨⟨vs, v, h1, e1⟩, fun x H' y => ?_⟩
  obtain ⟨rfl, y⟩ := y
  have e3 := y vs h1
  rw [e1] at e3; cases e3
  exact ⟨.refl, R1, e2⟩
theorem JOk.loc {j : Nat} (h : r[j]? = some a) : JOk K F (Itl K a) xs [(j, xs)] r H := by
  intro F2 i H1 r1 st1 hF A R1 hw
  have hj : st1[j]? = some xs := hw (j, xs) (by simp)
  obtain ⟨us, h1, q1⟩ := R1.cells j a xs (A.get h) hj
  have h2 : SqL K H1 a us := .of h1
  refine ⟨fun p e => ?_, fun hl => ⟨us, h2, by rw [q1.length]; exact hl⟩⟩
  obtain ⟨v, e1, e2⟩ := q1.get2 e
  refine ⟨⟨us, v, h2, e1⟩, fun x H' y => ?_⟩
  obtain ⟨rfl, y⟩ := y
  have e3 := y us h2
  rw [e1] at e3; cases e3
  exact ⟨.refl, R1, e2⟩
theorem JOk.rng (lo : Int) (n : Nat) : JOk K F (Itr lo n) (rngL lo 1 n) [] r H := by
  intro F2 i H1 r1 st1 hF A R1 _
  have hl : (rngL lo 1 n).length = n := by simp [rngL]
  refine ⟨fun p e => ?_, fun h => by rw [hl] at h; exact h⟩
  have hi : i < n := by rw [← hl]; exact (List.getElem?_eq_some_iff.mp e).1
  have e2 : p = .int (lo + (i : Nat) * 1) := by
    simp only [rngL, List.getElem?_map, List.getElem?_range hi, Option.map_some, Option.some.injEq] at e
    exact e.symm
  refine ⟨hi, fun x H' y => ?_⟩
  obtain ⟨rfl, rfl⟩ := y
  rw [e2, Int.mul_one]
  exact ⟨.refl, R1, .int _⟩
theorem JOk.rngC (lo c : Int) (n : Nat) : JOk K F (Itc lo c n) (rngL lo c n) [] r H := by
  intro F2 i H1 r1 st1 hF A R1 _
  have hl : (rngL lo c n).length = n := by simp [rngL]
  refine ⟨fun p e => ?_, fun h => by rw [hl] at h; exact h⟩
  have hi : i < n := by rw [← hl]; exact (List.getElem?_eq_some_iff.mp e).1
  have e2 : p = .int (lo + (i : Nat) * c) := by
    simp only [rngL, List.getElem?_map, List.getElem?_range hi, Option.map_some, Option.some.injEq] at e
    exact e.symm
  refine ⟨hi, fun x H' y => ?_⟩
  obtain ⟨rfl, rfl⟩ := y
  rw [e2]
  exact ⟨.refl, R1, .int _⟩
/-- a list that is read, at any later time while what is watched stands -/
theorem seq_later {v : V} {p : PV} (R : Rel K F H r st) (h : Rep K F H r v p) (e : seqL st p = some xs) : ∃ a, v = .ref a ∧ ∀ (F2 : List Addr) (H1 : Hp) (r1 : List Addr) (st1 : Store), (∀ b ∈ F2, b ∈ F ∨ H b = none) → AftF F r H r1 H1 → Rel K F2 H1 r1 st1 → watchOk (watchOf p xs) st1 →
    ∃ us, SqL K H1 a us ∧ Reps K F2 H1 r1 us xs := by
  cases h with
  | @lsv a vs ds h q =>
    cases e
    exact ⟨a, rfl, fun F2 H1 r1 st1 hF A R1 _ => ⟨vs, (SqF.aft2 R A hF h).seq, Reps.aft2 R A hF q⟩⟩
  | @loc a i h =>
    refine ⟨a, rfl, fun F2 H1 r1 st1 hF A R1 hw => ?_⟩
    have hj : st1[i]? = some xs := hw (i, xs) (by simp [watchOf])
    obtain ⟨us, h1, q1⟩ := R1.cells i a xs (A.get h) hj
    exact ⟨us, .of h1, q1⟩
  | _ => cases e
theorem JOk.enm {v : V} {p : PV} (R : Rel K F H r st) (h : Rep K F H r v p) (e : seqL st p = some xs) : ∃ a, v = .ref a ∧ JOk K F (Ite K a) (xs.zipIdx.map fun q => .tup [.int (q.2 : Nat), q.1]) (watchOf p xs) r H := by
  obtain ⟨a, rfl, later⟩ := seq_later R h e
  refine ⟨a, rfl, fun F2 i H1 r1 st1 hF A R1 hw => ?_⟩
  obtain ⟨us, h1, q1⟩ := later F2 H1 r1 st1 hF A R1 hw
  refine ⟨fun p e => ?_, fun hl => ⟨us, h1, by rw [q1.length]; simpa using hl⟩⟩
  rw [List.getElem?_map, List.getElem?_zipIdx, Option.map_map, Option.map_eq_some_iff] at e
  obtain ⟨z, e1, rfl⟩ := e
  obtain ⟨u, e2, e3⟩ := q1.get2 e1
  refine ⟨⟨us, u, h1, e2⟩, fun x H' y => ?_⟩
  obtain ⟨T, w, rfl, hT, rfl, y⟩ := y
  have e4 := y us h1
  rw [e2] at e4; cases e4
  refine ⟨.new hT, R1.new hT, ?_⟩
  have : Reps K F2 H1 r1 [.int (i : Nat), u] [.int ((0 + i : Nat) : Nat), z] := by
    rw [Nat.zero_add]
    exact .cons (.int _) (.cons e3 .nil)
  exact .newT R1 hT this
theorem zip_get {α β : Type} {l : List α} {m : List β} {i : Nat} {p : α × β} (h : (l.zip m)[i]? = some p) : l[i]? = some p.1 ∧ m[i]? = some p.2 := by
  rw [List.getElem?_zip_eq_some] at h
  exact h
theorem JOk.zipL {v u : V} {p q : PV} (R : Rel K F H r st) (h : Rep K F H r v p) (e : seqL st p = some xs) (h2 : Rep K F H r u q) (e2 : seqL st q = some ys) :
    ∃ a b, v = .ref a ∧ u = .ref b ∧ JOk K F (Itz K a b) ((xs.zip ys).map fun q => .tup [q.1, q.2]) (watchOf p xs ++ watchOf q ys) r H := by
  obtain ⟨a, rfl, later⟩ := seq_later R h e
  obtain ⟨b, rfl, later2⟩ := seq_later R h2 e2
  refine ⟨a, b, rfl, rfl, fun F2 i H1 r1 st1 hF A R1 hw => ?_⟩
  obtain ⟨us, h1, q1⟩ := later F2 H1 r1 st1 hF A R1 fun z hz => hw z (List.mem_append_left _ hz)
  obtain ⟨ws, h3, q3⟩ := later2 F2 H1 r1 st1 hF A R1 fun z hz => hw z (List.mem_append_right _ hz)
  refine ⟨fun p e => ?_, fun hl => ⟨us, ws, h1, h3, ?_⟩⟩
  · rw [List.getElem?_map, Option.map_eq_some_iff] at e
    obtain ⟨z, e, rfl⟩ := e
    obtain ⟨ea, eb⟩ := zip_get e
    obtain ⟨s1, f1, g1⟩ := q1.get2 ea
    obtain ⟨s2, f2, g2⟩ := q3.get2 eb
    refine ⟨⟨us, ws, s1, s2, h1, h3, f1, f2⟩, fun x H' y => ?_⟩
    obtain ⟨T, w1, w2, rfl, hT, rfl, y1, y2⟩ := y
    have k1 := y1 us h1
    rw [f1] at k1; cases k1
    have k2 := y2 ws h3
    rw [f2] at k2; cases k2
    exact ⟨.new hT, R1.new hT, .newT R1 hT (.cons g1 (.cons g2 .nil))⟩
  · rw [q1.length, q3.length]
    simp only [List.length_map, List.length_zip] at hl
    omega
theorem JOk.zipT (R : Rel K F H r st) (h : SqT K H a vs) (q : Reps K F H r vs xs) (h2 : SqT K H b ws) (q2 : Reps K F H r ws ys) : JOk K F (RZ.ItzT K a b) ((xs.zip ys).map fun q => .tup [q.1, q.2]) [] r H := by
  intro F2 i H1 r1 st1 hF A R1 hw
  have h1 := SqT.aftF R A h
  have q1 := Reps.aft2 R A hF q
  have h3 := SqT.aftF R A h2
  have q3 := Reps.aft2 R A hF q2
  refine ⟨fun p e => ?_, fun hl => ⟨vs, ws, h1, h3, ?_⟩⟩
  · rw [List.getElem?_map, Option.map_eq_some_iff] at e
    obtain ⟨z, e, rfl⟩ := e
    obtain ⟨ea, eb⟩ := zip_get e
    obtain ⟨s1, f1, g1⟩ := q1.get2 ea
    obtain ⟨s2, f2, g2⟩ := q3.get2 eb
    refine ⟨⟨vs, ws, s1, s2, h1, h3, f1, f2⟩, fun x H' y => ?_⟩
    obtain ⟨T, w1, w2, rfl, hT, rfl, y1, y2⟩ := y
    have k1 := y1 vs h1
    rw [f1] at k1; cases k1
    have k2 := y2 ws h3
    rw [f2] at k2; cases k2
    exact ⟨.new hT, R1.new hT, .newT R1 hT (.cons g1 (.cons g2 .nil))⟩
  · rw [q1.length, q3.length]
    simp only [List.length_map, List.length_zip] at hl
    omega
end
end L2.Iv

/-! IvF: comprehensions: their readings. Own work. -/
namespace L2.Iv
open PySem PySem.Spec PyProof.Rows

section
variable {X : Cx} {g : Sg} {n : Nat} {N : List Str} {sc so : Scope}
theorem Std.blk (S : Std X g n N sc so) {scope : Scope} {s : Shared} {H : Hp} {cl : List (Str × Addr)} {C : Addr} {fp : List Addr} : Std (X.blk s H scope (compEnvC scope cl C X.env) fp) g n N (relS scope sc) scope := by
  refine ⟨⟨S.cal.room, S.cal.gd, S.cal.calm⟩, S.link, S.eN, S.nd, ?_, fun x hx => ?_, rfl⟩
  · show relS scope X.env.scope = relS scope sc
    rw [S.eS]
  · rcases hx with e | e
    · have q := lookup_relS_keep (sc := sc) (names := scope.names) (x := x) (k := .local) (by decide) e
      exact ⟨.inl q, .inr q⟩
    · have q := lookup_relS_keep (sc := sc) (names := scope.names) (x := x) (k := .cell) (by decide) e
      refine ⟨.inr q, .inl ?_⟩
      show (scope.names.lookup x == some NameKind.cell) = true
      rw [e]; rfl
end

section
variable {K : PySem.W.Frag} {F : List Addr} {H H' : Hp} {r r' : List Addr} {st : Store} {v : V} {p : PV} {vs : List V} {ps : List PV} {env : Env} {σ : St} {D : Addr}
/-- what was shut is one of the lists that are written -/
theorem SqF.opn {a : Addr} (h : SqF K (D :: F) H r a vs) : SqF K F H (r ++ [D]) a vs := by
  rcases h with ⟨h, n1, n2⟩ | h | h
  · simp only [List.mem_cons, not_or] at n2
    exact .inl ⟨h, by simp [n1, n2.1], n2.2⟩
  · exact .inr (.inl h)
  · exact .inr (.inr h)
mutual
theorem Rep.opn : ∀ {v : V} {p : PV}, Rep K (D :: F) H r v p → Rep K F H (r ++ [D]) v p
  | _, _, .non => .non
  | _, _, .bl b => .bl b
  | _, _, .int i => .int i
  | _, _, .str x => .str x
  | _, _, .lsv h q => .lsv h.opn (Reps.opn q)
  | _, _, .tup h q => .tup h (Reps.opn q)
  | _, _, .loc e => .loc (by rw [List.getElem?_append_left (List.getElem?_eq_some_iff.mp e).1]; exact e)
theorem Reps.opn : ∀ {vs : List V} {ps : List PV}, Reps K (D :: F) H r vs ps → Reps K F H (r ++ [D]) vs ps
  | _, _, .nil => .nil
  | _, _, .cons h q => .cons (Rep.opn h) (Reps.opn q)
end
theorem Rel.opn (R : Rel K (D :: F) H r st) (hD : D ∉ r) (hF : D ∉ F) (h : H D = some (.lst vs)) (q : Reps K (D :: F) H r vs ps) : Rel K F H (r ++ [D]) (st ++ [ps]) := by
  refine ⟨by simp [R.len], ?_, fun i b xs e1 e2 => ?_, fun b hb => ?_, fun b hb => R.fs b (by simp [hb])⟩
  · rw [List.nodup_append]
    refine ⟨R.nd, by simp, fun x hx y hy => ?_⟩
    rw [List.mem_singleton] at hy
    rintro rfl
    exact hD (hy ▸ hx)
  · by_cases hi : i < r.length
    · rw [List.getElem?_append_left hi] at e1
      rw [List.getElem?_append_left (by rw [← R.len]; exact hi)] at e2
      obtain ⟨ws, q1, q2⟩ := R.cells i b xs e1 e2
      exact ⟨ws, q1, q2.opn⟩
    · have hl := R.len
      rw [List.getElem?_append_right (by omega)] at e1
      rw [List.getElem?_append_right (by omega)] at e2
      have hz : i - r.length = 0 := by
        have := (List.getElem?_eq_some_iff.mp e1).1
        simp at this; omega
      rw [hz] at e1
      rw [← hl, hz] at e2
      simp at e1 e2
      subst e1; subst e2
      exact ⟨vs, h, q.opn⟩
  · rcases List.mem_append.mp hb with hb | hb
    · exact fun m => R.apart b hb (by simp [m])
    · rw [List.mem_singleton] at hb; subst hb; exact hF
end

/-- a target, tests, an element: whatever is shut -/
def gX (K : PySem.W.Frag) (p : Pt) : TG := fun v σ H Q => ∃ F, gI K F p v σ H Q
def tTX (K : PySem.W.Frag) (o : Env → Store → Out Bool) : TT := fun σ H Q => ∃ F, tIT K F o σ H Q
def tX (K : PySem.W.Frag) (o : Env → Store → Out PV) : TE := fun σ H Q => ∃ F, tI K F o σ H Q
def iX (K : PySem.W.Frag) (o : Env → Store → Out (List PV × Watch)) : TI := fun σ H R => ∃ F, iI K F o σ H R

theorem wipe_wipe (σ : St) (vs : List Nat) : ∀ ws : List Nat, (∀ i ∈ ws, i ∈ vs) → wipe (wipe σ ws) vs = wipe σ vs
  | [], _ => rfl
  | w :: ws, h => by
    show wipe ((wipe σ ws).set w none) vs = _
    rw [wipe_set_in _ _ _ _ (h w (by simp))]
    exact wipe_wipe σ vs ws fun i hi => h i (by simp [hi])
/-- one turn of a comprehension -/
noncomputable def lcTurn (C : Ctx) (env : Env) (p : Pt) (cs : Exs) (e : Ex) : PV → Store → Out (List PV) := fun x st => match asgP p x env with
  | some env1 => (evTests C cs env1 st).quiet.bind fun b st1 => if b = true then (evE C e env1 st1).quiet.bind fun y st2 => .ok [y] st2 else .ok [] st1
  | none => .bad
theorem quiet_eq {α : Type} {o : Out α} {a : α} {st : Store} (h : o.quiet = .ok a st) : o = .ok a st := by
  cases o <;> first | exact h | cases h
theorem bind_eq {α β : Type} {o : Out α} {f : α → Store → Out β} {b : β} {st : Store} (h : o.bind f = .ok b st) : ∃ a st1, o = .ok a st1 ∧ f a st1 = .ok b st := by
  cases o with
  | ok a st1 => exact ⟨a, st1, rfl, h⟩
  | exc => cases h
  | bad => cases h

/-- from inside a turn: an element appended, or none. D is shut -/
def LcIn (K : PySem.W.Frag) (F : List Addr) (D : Addr) (r1 : List Addr) (H1 : Hp) (es : List (Env × St)) (r : List Addr) (st : Store) (acc : List PV) (H : Hp) : Prop :=
  ∃ vs, Aft r1 H1 r H ∧ Rel K (D :: F) H r st ∧ (∀ x ∈ es, EnvRel K (D :: F) H r x.1 x.2) ∧ D ∉ r ∧ H D = some (.lst vs) ∧ Reps K (D :: F) H r vs acc
theorem LcIn.go {K : PySem.W.Frag} {F : List Addr} {D : Addr} {r1 : List Addr} {H1 : Hp} {es : List (Env × St)} {r r' : List Addr} {st st' : Store} {acc : List PV} {H H' : Hp} (L : LcIn K F D r1 H1 es r st acc H)
    (A : Aft r H r' H') (R' : Rel K (D :: F) H' r' st') : LcIn K F D r1 H1 es r' st' acc H' := by
  obtain ⟨vs, a, R, E, n, e, q⟩ := L
  obtain ⟨e2, n2⟩ := A.keep D _ e n
  exact ⟨vs, a.trans A, R', fun x hx => (E x hx).aft R A, n2, e2, q.aft R A⟩
theorem LcIn.add {K : PySem.W.Frag} {F : List Addr} {D : Addr} {r1 : List Addr} {H1 : Hp} {es : List (Env × St)} {r : List Addr} {st : Store} {acc : List PV} {H : Hp} {v : V} {p : PV} (L : LcIn K F D r1 H1 es r st acc H) (hD : H1 D = none)
    (h : Rep K (D :: F) H r v p) : ∃ vs, H D = some (.lst vs) ∧ vs.length = acc.length ∧ LcIn K F D r1 H1 es r st (acc ++ [p]) (upd H D (.lst (vs ++ [v]))) := by
  obtain ⟨vs, a, R, E, n, e, q⟩ := L
  have hm : D ∈ D :: F := by simp
  refine ⟨vs, e, q.length, vs ++ [v], ⟨a.pre, fun b o eb nb => ?_⟩, R.wr hm e, fun x hx => (E x hx).wr hm e, n, upd_same, Reps.append (q.wr hm e) (.cons (h.wr hm e) .nil)⟩
  obtain ⟨z1, z2⟩ := a.keep b o eb nb
  exact ⟨by rw [upd_ne (ne_of_none eb hD)]; exact z1, z2⟩

/-- the turns of a comprehension's one clause, upon a list D that is shut -/
theorem lc_turns {C : Ctx} {K : PySem.W.Frag} {F : List Addr} {D : Addr} {r1 r0 : List Addr} {H1 H0 : Hp} {env : Env} {σ : St} {es : List (Env × St)} {p : Pt} {cs : Exs} {e : Ex} {own : List Nat} {J : It} {xs : List PV} {w : Watch}
    (hD : H1 D = none) (hes : (env, σ) ∈ es) (hown : ∀ i ∈ p.slots, i ∈ own) {i : Nat} {r : List Addr} {st : Store} {acc : List PV} {H : Hp} {F0 : List Addr} (j : JOk K F0 J xs w r0 H0) (hF : ∀ b ∈ D :: F, b ∈ F0 ∨ H0 b = none) (A0 : AftF F0 r0 H0 r H)
    (L : LcIn K F D r1 H1 es r st acc H) {x : PV} (hx : xs[i]? = some x) (hw : watchOk w st) {ys : List PV} {st' : Store}
    (hf : lcTurn C (wipeE env own) p cs e x st = .ok ys st') (hz : acc.length + ys.length ≤ sizeLine) (Nx : Hp → Prop) (hN : ∀ H' r', LcIn K F D r1 H1 es r' st' (acc ++ ys) H' → AftF (D :: F) r H r' H' → Nx H') :
    J.go i H ∧ ∀ x H', J.yld i H x H' → gX K p x (wipe σ own) H' fun σ2 H2 => wipe σ2 own = wipe σ own ∧ tTX K (evTests C cs) σ2 H2 fun b H3 =>
      if b = true then tX K (evE C e) σ2 H3 fun y H4 => ∃ acc, H4 D = some (.lst acc) ∧ acc.length < sizeLine ∧ Nx (upd H4 D (.lst (acc ++ [y]))) else Nx H3 := by
  obtain ⟨vs, a, R, E, nD, eD, q⟩ := id L
  obtain ⟨go, yl⟩ := (j (D :: F) i H r st hF A0 R hw).1 x hx
  refine ⟨go, fun v H' hy => ?_⟩
  obtain ⟨A1, R1, hv⟩ := yl v H' hy
  have L1 := L.go A1 R1
  obtain ⟨_, _, _, E1, _, _, _⟩ := id L1
  unfold lcTurn at hf
  split at hf
  · rename_i env1 he1
    obtain ⟨b, st1, h1, h2⟩ := bind_eq hf
    have h1 := quiet_eq h1
    refine ⟨D :: F, r, st, wipeE env own, x, env1, R1, (E1 _ hes).wipe own, hv, he1, fun σ2 E2 w2 => ⟨(w2 own hown).trans (wipe_wipe σ own own fun _ z => z), D :: F, r, env1, st, R1, E2, ?_⟩⟩
    rw [h1]
    intro H3 r3 A3 R3
    have L3 := L1.go A3 R3
    cases b with
    | true =>
      rw [if_pos rfl]
      rw [if_pos rfl] at h2
      obtain ⟨y, st2, h3, h4⟩ := bind_eq h2
      have h3 := quiet_eq h3
      cases h4
      refine ⟨D :: F, r3, env1, st1, R3, E2.aft R1 A3, ?_⟩
      rw [h3]
      intro v4 H4 r4 A4 R4 hv4
      obtain ⟨ws, e4, l4, L4⟩ := (L3.go A4 R4).add hD hv4
      refine ⟨ws, e4, ?_, hN _ r4 L4 ((Aft.toF (A1.trans (A3.trans A4))).trans ⟨⟨[], by simp⟩, fun b o eb nb mb => ⟨by rw [upd_ne (by rintro rfl; exact mb (by simp))]; exact eb, nb⟩⟩)⟩
      rw [l4]
      simp only [List.length_singleton] at hz
      omega
    | false =>
      rw [if_neg Bool.false_ne_true]
      rw [if_neg Bool.false_ne_true] at h2
      cases h2
      refine hN H3 r3 ?_ (Aft.toF (A1.trans A3))
      rw [List.append_nil]
      exact L3
  · cases hf

theorem compF_cons {w : Watch} {f : PV → Store → Out (List PV)} {x : PV} {xs acc : List PV} {st : Store} {zs : List PV} {st2 : Store} (h : compF w f (x :: xs) acc st = .ok zs st2) :
    watchOk w st ∧ ∃ ys st1, f x st = .ok ys st1 ∧ acc.length + ys.length ≤ sizeLine ∧ compF w f xs (acc ++ ys) st1 = .ok zs st2 := by
  unfold compF at h
  split at h
  · rename_i hw
    obtain ⟨ys, st1, h1, h2⟩ := bind_eq h
    split at h2
    · exact ⟨hw, ys, st1, h1, by assumption, h2⟩
    · cases h2
  · cases h

theorem compF_nil {w : Watch} {f : PV → Store → Out (List PV)} {acc : List PV} {st : Store} {zs : List PV} {st2 : Store} (h : compF w f [] acc st = .ok zs st2) : watchOk w st ∧ acc = zs ∧ st = st2 := by
  unfold compF at h
  split at h
  · cases h; exact ⟨by assumption, rfl, rfl⟩
  · cases h
theorem drop_get {α : Type} {l : List α} {i : Nat} (h : i < l.length) : ∃ x, l[i]? = some x ∧ l.drop i = x :: l.drop (i + 1) :=
  ⟨l[i], List.getElem?_eq_getElem h, List.drop_eq_getElem_cons h⟩

theorem lc_read {C : Ctx} {K : PySem.W.Frag} {F : List Addr} {σ : St} {H : Hp} {Q : VK} {fr : Bool} {own : List Nat} {p : Pt} {it : Ix} {cs : Exs} {e : Ex} (hown : ∀ i ∈ p.slots, i ∈ own)
    (h : tI K F (evE C (.lc fr own p it cs e)) σ H Q) : tLc (iI K F (evIx C it)) (gX K p) (tTX K (evTests C cs)) (tX K (evE C e)) own σ H Q := by
  obtain ⟨r, env, st, R, E, h⟩ := h
  have h : Post K F r H Q ((evIx C it env st).bind fun xw st1 => (compF xw.2 (lcTurn C (wipeE env own) p cs e) xw.1 [] st1).bind fun ys st2 => newL fr ys st2) := h
  refine ⟨r, env, st, R, E, ?_⟩
  cases hi : evIx C it env st with
  | exc => rw [hi] at h; exact h.elim
  | bad => rw [hi] at h; exact h.elim
  | ok xw st1 =>
    rw [hi] at h
    intro H1 r1 J A1 R1 j D hD
    have h : Post K F r H Q ((compF xw.2 (lcTurn C (wipeE env own) p cs e) xw.1 [] st1).bind fun ys st2 => newL fr ys st2) := h
    cases hc : compF xw.2 (lcTurn C (wipeE env own) p cs e) xw.1 [] st1 with
    | exc => rw [hc] at h; exact h.elim
    | bad => rw [hc] at h; exact h.elim
    | ok zs st2 =>
      rw [hc] at h
      have h : Post K F r1 H1 Q (newL fr zs st2) := h.aft A1
      have hF : ∀ b ∈ D :: F, b ∈ F ∨ H1 b = none := fun b hb => by
        rcases List.mem_cons.mp hb with rfl | hb
        · exact .inr hD
        · exact .inl hb
      have E1 := E.aft R A1
      have nF := (R1.fresh hD).2
      refine ⟨fun i m H2 => i ≤ xw.1.length ∧ m = xw.1.length - i ∧ ∃ r2 st3 acc, LcIn K F D r1 H1 [(env, σ)] r2 st3 acc H2 ∧ compF xw.2 (lcTurn C (wipeE env own) p cs e) (xw.1.drop i) acc st3 = .ok zs st2,
        ⟨_, Nat.zero_le _, rfl, r1, st1, [], ⟨[], .new hD, R1.shut hD, fun x hx => by
          rw [List.mem_singleton] at hx; subst hx; exact E1.aft2 R1 (Aft.toF (.new hD)) hF, (R1.fresh hD).1, upd_same, .nil⟩, by rw [List.drop_zero]; exact hc⟩, ?_⟩
      rintro i m H2 ⟨hi2, rfl, r2, st3, acc, L, hc2⟩
      by_cases hlt : i < xw.1.length
      · right
        obtain ⟨x, hx, hd⟩ := drop_get hlt
        rw [hd] at hc2
        obtain ⟨hw, ys, st4, hf, hz, hc3⟩ := compF_cons hc2
        have T := lc_turns (env := env) (σ := σ) hD (by simp) hown j hF (by obtain ⟨_, a, _⟩ := L; exact a.toF) L hx hw hf hz (fun H' => i + 1 ≤ xw.1.length ∧ ∃ r2 st3 acc, LcIn K F D r1 H1 [(env, σ)] r2 st3 acc H' ∧ compF xw.2 (lcTurn C (wipeE env own) p cs e) (xw.1.drop (i + 1)) acc st3 = .ok zs st2)
          fun H' r' L' _ => ⟨hlt, r', st4, acc ++ ys, L', hc3⟩
        exact ⟨T.1, _, fun H' hN => ⟨xw.1.length - (i + 1), by omega, hN.1, rfl, hN.2⟩, T.2⟩
      · left
        have hi3 : i = xw.1.length := by omega
        subst hi3
        rw [List.drop_length] at hc2
        obtain ⟨hw, rfl, rfl⟩ := compF_nil hc2
        obtain ⟨vs, a, R2, E2, nD, eD, q⟩ := L
        refine ⟨(j (D :: F) _ H2 r2 st3 hF a.toF R2 hw).2 (Nat.le_refl _), ?_⟩
        · cases fr with
          | true => exact h _ _ r2 a (R2.less fun b hb => by simp [hb]) (.lsv (.inl ⟨eD, nD, nF⟩) (q.less fun b hb => by simp [hb]))
          | false =>
            refine h _ _ (r2 ++ [D]) ⟨?_, fun b o eb nb => ?_⟩ (R2.opn nD nF eD q) (.loc ?_)
            · obtain ⟨z, e⟩ := a.pre
              exact ⟨z ++ [D], by rw [e, List.append_assoc]⟩
            · obtain ⟨z1, z2⟩ := a.keep b o eb nb
              exact ⟨z1, by simp [z2, ne_of_none eb hD]⟩
            · rw [← R2.len]; simp

theorem compF_le {w : Watch} {f : PV → Store → Out (List PV)} : ∀ {xs acc : List PV} {st : Store} {zs : List PV} {st2 : Store}, compF w f xs acc st = .ok zs st2 → acc.length ≤ zs.length
  | [], acc, st, zs, st2, h => by
    obtain ⟨_, rfl, _⟩ := compF_nil h
    exact Nat.le_refl _
  | x :: xs, acc, st, zs, st2, h => by
    obtain ⟨_, ys, st1, _, _, h2⟩ := compF_cons h
    have := compF_le h2
    rw [List.length_append] at this
    omega
/-- a turn of the outer clause -/
noncomputable def lcTurn2 (C : Ctx) (env : Env) (p : Pt) (cs : Exs) (vs2 : List Nat) (p2 : Pt) (it2 : Ix) (cs2 : Exs) (e : Ex) : PV → Store → Out (List PV) := fun x st => match asgP p x env with
  | some env1 => (evTests C cs env1 st).quiet.bind fun b st1 => if b = true then (evIx C it2 env1 st1).quiet.bind fun xw2 st2 => compF xw2.2 (lcTurn C (wipeE env1 vs2) p2 cs2 e) xw2.1 [] st2 else .ok [] st1
  | none => .bad
theorem lc2_read {C : Ctx} {K : PySem.W.Frag} {F : List Addr} {σ : St} {H : Hp} {Q : VK} {fr : Bool} {own vs2 : List Nat} {p p2 : Pt} {it it2 : Ix} {cs cs2 : Exs} {e : Ex} (hown : ∀ i ∈ p.slots, i ∈ own) (hown2 : ∀ i ∈ p2.slots, i ∈ vs2)
    (h : tI K F (evE C (.lc2 fr own p it cs vs2 p2 it2 cs2 e)) σ H Q) : tLc2 (iI K F (evIx C it)) (gX K p) (tTX K (evTests C cs)) (iX K (evIx C it2)) (gX K p2) (tTX K (evTests C cs2)) (tX K (evE C e)) own vs2 σ H Q := by
  obtain ⟨r, env, st, R, E, h⟩ := h
  have h : Post K F r H Q ((evIx C it env st).bind fun xw st1 => (compF xw.2 (lcTurn2 C (wipeE env own) p cs vs2 p2 it2 cs2 e) xw.1 [] st1).bind fun ys st2 => newL fr ys st2) := h
  refine ⟨r, env, st, R, E, ?_⟩
  cases hi : evIx C it env st with
  | exc => rw [hi] at h; exact h.elim
  | bad => rw [hi] at h; exact h.elim
  | ok xw st1 =>
    rw [hi] at h
    intro H1 r1 J A1 R1 j D hD
    have h : Post K F r H Q ((compF xw.2 (lcTurn2 C (wipeE env own) p cs vs2 p2 it2 cs2 e) xw.1 [] st1).bind fun ys st2 => newL fr ys st2) := h
    cases hc : compF xw.2 (lcTurn2 C (wipeE env own) p cs vs2 p2 it2 cs2 e) xw.1 [] st1 with
    | exc => rw [hc] at h; exact h.elim
    | bad => rw [hc] at h; exact h.elim
    | ok zs st2 =>
      rw [hc] at h
      have h : Post K F r1 H1 Q (newL fr zs st2) := h.aft A1
      have hF : ∀ b ∈ D :: F, b ∈ F ∨ H1 b = none := fun b hb => by
        rcases List.mem_cons.mp hb with rfl | hb
        · exact .inr hD
        · exact .inl hb
      have E1 := E.aft R A1
      have nF := (R1.fresh hD).2
      refine ⟨fun i m H2 => i ≤ xw.1.length ∧ m = xw.1.length - i ∧ ∃ r2 st3 acc, LcIn K F D r1 H1 [(env, σ)] r2 st3 acc H2 ∧ compF xw.2 (lcTurn2 C (wipeE env own) p cs vs2 p2 it2 cs2 e) (xw.1.drop i) acc st3 = .ok zs st2,
        ⟨_, Nat.zero_le _, rfl, r1, st1, [], ⟨[], .new hD, R1.shut hD, fun x hx => by
          rw [List.mem_singleton] at hx; subst hx; exact E1.aft2 R1 (Aft.toF (.new hD)) hF, (R1.fresh hD).1, upd_same, .nil⟩, by rw [List.drop_zero]; exact hc⟩, ?_⟩
      rintro i m H2 ⟨hi2, rfl, r2, st3, acc, L, hc2⟩
      by_cases hlt : i < xw.1.length
      · right
        obtain ⟨x, hx, hd⟩ := drop_get hlt
        rw [hd] at hc2
        obtain ⟨hw, ys, st4, hf, hz, hc3⟩ := compF_cons hc2
        obtain ⟨vs, a, R2, E2, nD, eD, q⟩ := id L
        obtain ⟨go, yl⟩ := (j (D :: F) i H2 r2 st3 hF a.toF R2 hw).1 x hx
        refine ⟨go, fun H' => i + 1 ≤ xw.1.length ∧ ∃ r2 st3 acc, LcIn K F D r1 H1 [(env, σ)] r2 st3 acc H' ∧ compF xw.2 (lcTurn2 C (wipeE env own) p cs vs2 p2 it2 cs2 e) (xw.1.drop (i + 1)) acc st3 = .ok zs st2, fun H' hN => ⟨xw.1.length - (i + 1), by omega, hN.1, rfl, hN.2⟩, fun v H' hy => ?_⟩
        have hN : ∀ H' r', LcIn K F D r1 H1 [(env, σ)] r' st4 (acc ++ ys) H' → (i + 1 ≤ xw.1.length ∧ ∃ r2 st3 acc, LcIn K F D r1 H1 [(env, σ)] r2 st3 acc H' ∧ compF xw.2 (lcTurn2 C (wipeE env own) p cs vs2 p2 it2 cs2 e) (xw.1.drop (i + 1)) acc st3 = .ok zs st2) :=
          fun H' r' L' => ⟨hlt, r', st4, acc ++ ys, L', hc3⟩
        obtain ⟨A3, R3, hv⟩ := yl v H' hy
        have L1 := L.go A3 R3
        obtain ⟨_, _, _, E3, _, _, _⟩ := id L1
        unfold lcTurn2 at hf
        split at hf
        · rename_i env1 he1
          obtain ⟨b, st5, h1, h2⟩ := bind_eq hf
          have h1 := quiet_eq h1
          refine ⟨D :: F, r2, st3, wipeE env own, x, env1, R3, (E3 (env, σ) (by simp)).wipe own, hv, he1, fun σ2 E2 w2 => ⟨(w2 own hown).trans (wipe_wipe σ own own fun _ z => z), D :: F, r2, env1, st3, R3, E2, ?_⟩⟩
          rw [h1]
          intro H5 r5 A5 R5
          have L5 := L1.go A5 R5
          have E5 := E2.aft R3 A5
          cases b with
          | false =>
            rw [if_neg Bool.false_ne_true]
            rw [if_neg Bool.false_ne_true] at h2
            cases h2
            refine hN H5 r5 ?_
            rw [List.append_nil]
            exact L5
          | true =>
            rw [if_pos rfl]
            rw [if_pos rfl] at h2
            obtain ⟨xw2, st6, h3, h4⟩ := bind_eq h2
            have h3 := quiet_eq h3
            refine ⟨D :: F, r5, env1, st5, R5, E5, ?_⟩
            rw [h3]
            intro H6 r6 J1 A6 R6 j1
            have L6 : LcIn K F D r1 H1 [(env, σ), (env1, σ2)] r6 st6 acc H6 := by
              obtain ⟨vs, a, R, E, n, e, q⟩ := L5.go A6 R6
              refine ⟨vs, a, R, fun y hy => ?_, n, e, q⟩
              rcases List.mem_cons.mp hy with rfl | hy
              · exact E _ (by simp)
              · rw [List.mem_singleton] at hy; subst hy; exact E5.aft R5 A6
            refine ⟨fun k m H2 => k ≤ xw2.1.length ∧ m = xw2.1.length - k ∧ ∃ r2 st3 ac, LcIn K F D r1 H1 [(env, σ), (env1, σ2)] r2 st3 (acc ++ ac) H2 ∧ AftF (D :: F) r6 H6 r2 H2 ∧ compF xw2.2 (lcTurn C (wipeE env1 vs2) p2 cs2 e) (xw2.1.drop k) ac st3 = .ok ys st4,
              ⟨_, Nat.zero_le _, rfl, r6, st6, [], by rw [List.append_nil]; exact L6, Aft.toF .refl, by rw [List.drop_zero]; exact h4⟩, ?_⟩
            rintro k m H7 ⟨hk2, rfl, r7, st7, ac, L7, A7, hc7⟩
            have hF6 : ∀ b ∈ D :: F, b ∈ D :: F ∨ H6 b = none := fun b hb => .inl hb
            by_cases hlt2 : k < xw2.1.length
            · right
              obtain ⟨x2, hx2, hd2⟩ := drop_get hlt2
              rw [hd2] at hc7
              obtain ⟨hw2, ys2, st8, hf2, hz2, hc8⟩ := compF_cons hc7
              have hle := compF_le hc8
              have T := lc_turns (env := env1) (σ := σ2) hD (by simp) hown2 j1 hF6 A7 L7 hx2 hw2 hf2 (by rw [List.length_append] at hle ⊢; omega)
                (fun H' => k + 1 ≤ xw2.1.length ∧ ∃ r2 st3 ac, LcIn K F D r1 H1 [(env, σ), (env1, σ2)] r2 st3 (acc ++ ac) H' ∧ AftF (D :: F) r6 H6 r2 H' ∧ compF xw2.2 (lcTurn C (wipeE env1 vs2) p2 cs2 e) (xw2.1.drop (k + 1)) ac st3 = .ok ys st4)
                fun H' r' L' A' => ⟨hlt2, r', st8, ac ++ ys2, by rw [← List.append_assoc]; exact L', A7.trans A', hc8⟩
              exact ⟨T.1, _, fun H' hN => ⟨xw2.1.length - (k + 1), by omega, hN.1, rfl, hN.2⟩, T.2⟩
            · left
              have hk3 : k = xw2.1.length := by omega
              subst hk3
              rw [List.drop_length] at hc7
              obtain ⟨hw2, rfl, rfl⟩ := compF_nil hc7
              obtain ⟨vs8, a8, R8, E8, nD8, eD8, q8⟩ := L7
              refine ⟨(j1 (D :: F) _ H7 r7 st7 hF6 A7 R8 hw2).2 (Nat.le_refl _), hN H7 r7 ⟨vs8, a8, R8, fun y hy => ?_, nD8, eD8, q8⟩⟩
              rw [List.mem_singleton] at hy
              subst hy
              exact E8 _ (by simp)
        · cases hf
      · left
        have hi3 : i = xw.1.length := by omega
        subst hi3
        rw [List.drop_length] at hc2
        obtain ⟨hw, rfl, rfl⟩ := compF_nil hc2
        obtain ⟨vs, a, R2, E2, nD, eD, q⟩ := L
        refine ⟨(j (D :: F) _ H2 r2 st3 hF a.toF R2 hw).2 (Nat.le_refl _), ?_⟩
        · cases fr with
          | true => exact h _ _ r2 a (R2.less fun b hb => by simp [hb]) (.lsv (.inl ⟨eD, nD, nF⟩) (q.less fun b hb => by simp [hb]))
          | false =>
            refine h _ _ (r2 ++ [D]) ⟨?_, fun b o eb nb => ?_⟩ (R2.opn nD nF eD q) (.loc ?_)
            · obtain ⟨z, e⟩ := a.pre
              exact ⟨z ++ [D], by rw [e, List.append_assoc]⟩
            · obtain ⟨z1, z2⟩ := a.keep b o eb nb
              exact ⟨z1, by simp [z2, ne_of_none eb hD]⟩
            · rw [← R2.len]; simp
end L2.Iv

/-! IvG: expressions do what the language says. Own work. -/
namespace L2.Iv
open PySem PySem.Spec PyProof.Rows

section
variable {X : Cx} {g : Sg} {n : Nat} {N : List Str} {sc so : Scope} {F : List Addr} {e : Expr}
theorem chk_okS {ex : Ex} (h : chkE g N sc ex e = true) : okS e = true := by
  cases ex <;> cases e <;> first | rfl | cases h
theorem chkI_okS {it : Ix} (h : chkI g N sc it e = true) : okS e = true := by
  cases it with
  | val a =>
    unfold chkI at h
    simp only [Bool.and_eq_true] at h
    exact h.1
  | _ => cases e <;> first | rfl | cases h

/-! ### small readings -/
theorem tI_val {K : PySem.W.Frag} {σ : St} {H : Hp} {Q : VK} {v : V} {p : PV} {f : Env → Store → Out PV} (h : tI K F f σ H Q) (hf : ∀ env st, f env st = .ok p st) (hp : ∀ r, Rep K F H r v p) : Q v H := by
  obtain ⟨r, env, st, R, E, h⟩ := h
  rw [hf] at h
  exact h.here R (hp r)
theorem pt_plain (C : Ctx) {ex : Ex} (h : PE X e (tI X.K F (evE C ex))) (he : ∀ whole, isTrue e X.env whole = (do let v ← whole; standAt e.pos; holding [v] (PySem.truthy v))) : PT X e (tIT X.K F (evC C ex)) := by
  refine PT.imp (pt_truth h he) fun σ H Q h => ?_
  obtain ⟨r, env, st, R, E, h⟩ := h
  refine ⟨r, env, st, R, E, ?_⟩
  unfold evC at h
  cases hx : evE C ex env st with
  | exc => rw [hx] at h; exact h.elim
  | bad => rw [hx] at h; exact h.elim
  | ok p st1 =>
    rw [hx] at h
    intro v H1 r1 A1 R1 hv
    simp only [bind_ok] at h
    cases hb : truthy st1 p with
    | none => rw [hb] at h; exact h.elim
    | some b =>
      rw [hb] at h
      exact ⟨b, tru_of R1 hv hb, h H1 r1 A1 R1⟩
theorem PostT.aft {K : PySem.W.Frag} {H H' : Hp} {r r' : List Addr} {Q : Bool → Hp → Prop} {o : Out Bool} (h : PostT K F r H Q o) (A : Aft r H r' H') : PostT K F r' H' Q o := by
  cases o with
  | ok p st' => exact fun H2 r2 A2 => h H2 r2 (A.trans A2)
  | exc => exact h.elim
  | bad => exact h.elim
theorem PostA.aft {K : PySem.W.Frag} {H H' : Hp} {r r' : List Addr} {Q : List V → Hp → Prop} {o : Out (List PV)} (h : PostA K F r H Q o) (A : Aft r H r' H') : PostA K F r' H' Q o := by
  cases o with
  | ok p st' => exact fun v H2 r2 A2 => h v H2 r2 (A.trans A2)
  | exc => exact h.elim
  | bad => exact h.elim
/-- a test ahead of something -/
theorem tIT.step {K : PySem.W.Frag} {σ : St} {H : Hp} {Q : VK} {o : Env → Store → Out Bool} {f : Bool → Env → Store → Out PV} (h : tI K F (fun env st => (o env st).bind fun b st1 => f b env st1) σ H Q) :
    tIT K F o σ H fun b H1 => tI K F (f b) σ H1 Q := by
  obtain ⟨r, env, st, R, E, h⟩ := h
  refine ⟨r, env, st, R, E, ?_⟩
  dsimp only at h
  cases hx : o env st with
  | exc => rw [hx] at h; exact h.elim
  | bad => rw [hx] at h; exact h.elim
  | ok b st1 =>
    rw [hx] at h
    exact fun H1 r1 A1 R1 => ⟨r1, env, st1, R1, E.aft R A1, h.aft A1⟩
theorem tIT.step2 {K : PySem.W.Frag} {σ : St} {H : Hp} {Q : Bool → Hp → Prop} {o : Env → Store → Out Bool} {f : Bool → Env → Store → Out Bool} (h : tIT K F (fun env st => (o env st).bind fun b st1 => f b env st1) σ H Q) :
    tIT K F o σ H fun b H1 => tIT K F (f b) σ H1 Q := by
  obtain ⟨r, env, st, R, E, h⟩ := h
  refine ⟨r, env, st, R, E, ?_⟩
  dsimp only at h
  cases hx : o env st with
  | exc => rw [hx] at h; exact h.elim
  | bad => rw [hx] at h; exact h.elim
  | ok b st1 =>
    rw [hx] at h
    exact fun H1 r1 A1 R1 => ⟨r1, env, st1, R1, E.aft R A1, h.aft A1⟩
/-- a value ahead of a test -/
theorem tI.stepT {K : PySem.W.Frag} {σ : St} {H : Hp} {Q : Bool → Hp → Prop} {o : Env → Store → Out PV} {f : PV → Env → Store → Out Bool} (h : tIT K F (fun env st => (o env st).bind fun x st1 => f x env st1) σ H Q) :
    tI K F o σ H fun v H1 => ∃ r env st p, Rel K F H1 r st ∧ EnvRel K F H1 r env σ ∧ Rep K F H1 r v p ∧ PostT K F r H1 Q (f p env st) := by
  obtain ⟨r, env, st, R, E, h⟩ := h
  refine ⟨r, env, st, R, E, ?_⟩
  dsimp only at h
  cases hx : o env st with
  | exc => rw [hx] at h; exact h.elim
  | bad => rw [hx] at h; exact h.elim
  | ok b st1 =>
    rw [hx] at h
    exact fun v H1 r1 A1 R1 hv => ⟨r1, env, st1, b, R1, E.aft R A1, hv, h.aft A1⟩
theorem bind_assoc' {α β γ : Type} (o : Out α) (f : α → Store → Out β) (k : β → Store → Out γ) : (o.bind f).bind k = o.bind fun a st => (f a st).bind k := by
  cases o <;> rfl
theorem tI.eq {K : PySem.W.Frag} {σ : St} {H : Hp} {Q : VK} {o o' : Env → Store → Out PV} (h : tI K F o σ H Q) (e : ∀ env st, o env st = o' env st) : tI K F o' σ H Q := by
  obtain ⟨r, env, st, R, E, h⟩ := h
  exact ⟨r, env, st, R, E, by rw [← e]; exact h⟩
theorem tIT.eq {K : PySem.W.Frag} {σ : St} {H : Hp} {Q : Bool → Hp → Prop} {o o' : Env → Store → Out Bool} (h : tIT K F o σ H Q) (e : ∀ env st, o env st = o' env st) : tIT K F o' σ H Q := by
  obtain ⟨r, env, st, R, E, h⟩ := h
  exact ⟨r, env, st, R, E, by rw [← e]; exact h⟩

/-- two values, by an operation upon them -/
theorem two_read {K : PySem.W.Frag} {σ : St} {H : Hp} {Q : VK} {oa ob : Env → Store → Out PV} {f : PV → PV → Store → Out PV}
    (h : tI K F (fun env st => (oa env st).bind fun x st1 => (ob env st1).bind fun y st2 => f x y st2) σ H Q) :
    tI K F oa σ H fun x H1 => tI K F ob σ H1 fun y H2 => ∃ r st p q, Rel K F H2 r st ∧ Rep K F H2 r x p ∧ Rep K F H2 r y q ∧ Post K F r H2 Q (f p q st) := by
  obtain ⟨r, env, st, R, E, h⟩ := h
  refine ⟨r, env, st, R, E, ?_⟩
  dsimp only at h
  cases hx : oa env st with
  | exc => rw [hx] at h; exact h.elim
  | bad => rw [hx] at h; exact h.elim
  | ok p st1 =>
    rw [hx] at h
    intro v H1 r1 A1 R1 hv
    have h := h.aft A1
    refine ⟨r1, env, st1, R1, E.aft R A1, ?_⟩
    simp only [bind_ok] at h
    cases hy : ob env st1 with
    | exc => rw [hy] at h; exact h.elim
    | bad => rw [hy] at h; exact h.elim
    | ok q st2 =>
      rw [hy] at h
      exact fun u H2 r2 A2 R2 hu => ⟨r2, st2, p, q, R2, hv.aft R1 A2, hu, h.aft A2⟩
theorem two_readT {K : PySem.W.Frag} {σ : St} {H : Hp} {Q : Bool → Hp → Prop} {oa ob : Env → Store → Out PV} {f : PV → PV → Store → Out Bool}
    (h : tIT K F (fun env st => (oa env st).bind fun x st1 => (ob env st1).bind fun y st2 => f x y st2) σ H Q) :
    tI K F oa σ H fun x H1 => tI K F ob σ H1 fun y H2 => ∃ r st p q, Rel K F H2 r st ∧ Rep K F H2 r x p ∧ Rep K F H2 r y q ∧ PostT K F r H2 Q (f p q st) := by
  obtain ⟨r, env, st, R, E, h⟩ := h
  refine ⟨r, env, st, R, E, ?_⟩
  dsimp only at h
  cases hx : oa env st with
  | exc => rw [hx] at h; exact h.elim
  | bad => rw [hx] at h; exact h.elim
  | ok p st1 =>
    rw [hx] at h
    intro v H1 r1 A1 R1 hv
    have h := h.aft A1
    refine ⟨r1, env, st1, R1, E.aft R A1, ?_⟩
    simp only [bind_ok] at h
    cases hy : ob env st1 with
    | exc => rw [hy] at h; exact h.elim
    | bad => rw [hy] at h; exact h.elim
    | ok q st2 =>
      rw [hy] at h
      exact fun u H2 r2 A2 R2 hu => ⟨r2, st2, p, q, R2, hv.aft R1 A2, hu, h.aft A2⟩
theorem postT_of {K : PySem.W.Frag} {H : Hp} {r : List Addr} {st : Store} {Q : Bool → Hp → Prop} {o : Option Bool} (R : Rel K F H r st) (h : PostT K F r H Q (Out.of o st)) : ∃ b, o = some b ∧ Q b H := by
  cases o with
  | none => exact h.elim
  | some b => exact ⟨b, rfl, h H r .refl R⟩
theorem post_cmp {K : PySem.W.Frag} {H : Hp} {r : List Addr} {st : Store} {Q : VK} {o : Option Bool} (R : Rel K F H r st) (h : Post K F r H Q ((Out.of o st).bind fun b st3 => .ok (.bl b) st3)) : ∃ b, o = some b ∧ Q (.bl b) H := by
  cases o with
  | none => exact h.elim
  | some b => exact ⟨b, rfl, Post.here R h (.bl b)⟩
theorem post_tru {K : PySem.W.Frag} {H : Hp} {r : List Addr} {st : Store} {Q : Bool → Hp → Prop} {o : Option Bool} (R : Rel K F H r st) (h : PostT K F r H Q (((Out.of o st).bind fun b st3 => .ok (PV.bl b) st3).bind fun x st1 => Out.of (truthy st1 x) st1)) : ∃ b, o = some b ∧ Q b H := by
  cases o with
  | none => exact h.elim
  | some b => exact ⟨b, rfl, h H r .refl R⟩
theorem reps_perm {K : PySem.W.Frag} {H : Hp} {r : List Addr} {vs : List V} {ps : List PV} (h : Reps K F H r vs ps) : ∀ (perm : List Nat) (zs : List PV), perm.mapM (fun i => ps[i]?) = some zs → Reps K F H r (perm.map fun i => vs.getD i .non) zs
  | [], zs, e => by
    simp at e; subst e; exact .nil
  | i :: perm, zs, e => by
    simp only [List.mapM_cons, Option.bind_eq_bind, Option.bind_eq_some_iff] at e
    obtain ⟨z, e1, zs', e2, e3⟩ := e
    cases e3
    obtain ⟨v, e4, hv⟩ := h.get2 e1
    rw [List.map_cons]
    have : vs.getD i .non = v := by rw [List.getD_eq_getElem?_getD, e4]; rfl
    rw [this]
    exact .cons hv (reps_perm h perm zs' e2)
theorem vals_perm {vs : List V} {us : List Value} (h : Vals vs us) : ∀ perm : List Nat, Vals (perm.map fun i => vs.getD i .non) (perm.map fun i => us.getD i .none)
  | [] => .nil
  | i :: perm => by
    rw [List.map_cons, List.map_cons]
    refine .cons ?_ (vals_perm h perm)
    rw [List.getD_eq_getElem?_getD, List.getD_eq_getElem?_getD]
    cases e : vs[i]? with
    | none => rw [h.none_of e]; exact rfl
    | some v =>
      obtain ⟨u, e2, r⟩ := h.get e
      rw [e2]; exact r
theorem kw_facts : ∀ (kws : List Keyword), kws.all (fun k => k.arg.isSome) = true → ∀ (pos : Pos) (env : PySem.Env),
    (backToKw pos (keywordEach kws env)).all (·.1.isSome) = true ∧ (backToKw pos (keywordEach kws env)).filterMap (·.1) = kwNames kws ∧ (backToKw pos (keywordEach kws env)).any (·.1.isNone) = false
  | [], _, _, _ => ⟨rfl, rfl, rfl⟩
  | ⟨some k, v, p⟩ :: r, h, pos, env => by
    simp only [List.all_cons, Bool.and_eq_true] at h
    obtain ⟨h1, h2, h3⟩ := kw_facts r h.2 pos env
    refine ⟨?_, ?_, ?_⟩
    · show (true && (backToKw pos (keywordEach r env)).all (·.1.isSome)) = true
      rw [h1]; rfl
    · show k :: (backToKw pos (keywordEach r env)).filterMap (·.1) = k :: kwNames r
      rw [h2]
    · show (false || (backToKw pos (keywordEach r env)).any (·.1.isNone)) = false
      rw [h3]; rfl
  | ⟨none, v, p⟩ :: r, h, pos, env => by simp at h
theorem kwNames_len : ∀ (kws : List Keyword), kws.all (fun k => k.arg.isSome) = true → (kwNames kws).length = kws.length
  | [], _ => rfl
  | ⟨some k, v, p⟩ :: r, h => by
    simp only [List.all_cons, Bool.and_eq_true] at h
    exact congrArg (· + 1) (kwNames_len r h.2)
  | ⟨none, v, p⟩ :: r, h => by simp at h
theorem boot_bi (f : Bi) : bootBuiltins (biName f) = some (biVal f) := by cases f <;> decide +kernel
theorem boot_ty {T : String} (h : T ∈ tyNames) : bootBuiltins (Str.ofString T) = some (.type T) := by
  simp only [tyNames, List.mem_cons, List.not_mem_nil, or_false] at h
  rcases h with rfl | rfl | rfl | rfl | rfl <;> decide +kernel
theorem name_bi (f : Bi) : biName f ≠ "__name__" := by cases f <;> decide
theorem name_ty {T : String} (h : T ∈ tyNames) : (Str.ofString T) ≠ ("__name__" : Str) := by
  simp only [tyNames, List.mem_cons, List.not_mem_nil, or_false] at h
  rcases h with rfl | rfl | rfl | rfl | rfl <;> decide
theorem Std.gl (S : Std X g n N sc so) {x : Str} (h : glb sc x = true) : Gl X x ∧ (x == ("__debug__" : Str)) = false := by
  obtain ⟨h1, h2⟩ := glb_of h
  refine ⟨?_, h2⟩
  show X.env.scope.names.lookup x = _
  rw [S.eS]; exact h1
theorem Std.noexc (S : Std X g n N sc so) : PassesOwn (model X.prog X.w) X.A X.env X.xe := by
  rw [S.xe]; exact PassesOwn.never
end
end L2.Iv

/-! IvH: expressions do what the language says: the induction. Own work. -/
namespace L2.Iv
open PySem PySem.Spec PyProof.Rows

theorem pt_if {X : Cx} {c a b : Expr} {tc ta tb : TT} {pos : Pos} (hc : PT X c tc) (ha : PT X a ta) (hb : PT X b tb) : PT X (.IfExp c a b pos) (fun σ H Q => tc σ H fun k H1 => if k = true then ta σ H1 Q else tb σ H1 Q) := by
  refine ⟨fun pins s σ H Q I h => ?_⟩
  refine isTrue_IfExp (thn (hc.run pins s σ H _ I h) fun k s1 ⟨H1, I1, q⟩ => ?_)
  cases k with
  | true => exact ha.run pins s1 σ H1 Q I1 q
  | false => exact hb.run pins s1 σ H1 Q I1 q
theorem evAnd_test (C : Ctx) (a b : Ex) (es : Exs) (env : Env) (st : Store) : ((evAnd C (.cons a (.cons b es)) env st).bind fun x st1 => Out.of (truthy st1 x) st1) =
    (evC C a env st).bind fun k st1 => if k = true then (evAnd C (.cons b es) env st1).bind fun x st1 => Out.of (truthy st1 x) st1 else .ok false st1 := by
  unfold evC
  rw [evAnd]
  cases evE C a env st with
  | ok x st1 =>
    simp only [bind_ok]
    cases e : truthy st1 x with
    | none => rfl
    | some k =>
      cases k with
      | true => rfl
      | false => simp only [bind_ok, e, of_some]; rfl
  | exc => rfl
  | bad => rfl
  · intro e; cases e
theorem evOr_test (C : Ctx) (a b : Ex) (es : Exs) (env : Env) (st : Store) : ((evOr C (.cons a (.cons b es)) env st).bind fun x st1 => Out.of (truthy st1 x) st1) =
    (evC C a env st).bind fun k st1 => if k = true then .ok true st1 else (evOr C (.cons b es) env st1).bind fun x st1 => Out.of (truthy st1 x) st1 := by
  unfold evC
  rw [evOr]
  cases evE C a env st with
  | ok x st1 =>
    simp only [bind_ok]
    cases e : truthy st1 x with
    | none => rfl
    | some k =>
      cases k with
      | false => rfl
      | true => simp only [bind_ok, e, of_some]; rfl
  | exc => rfl
  | bad => rfl
  · intro e; cases e

section
variable {X : Cx} {g : Sg} {n : Nat} {N : List Str} {sc so : Scope} {F : List Addr} {e : Expr}
theorem snd_c (v : PV) (h : chkE g N sc (.c v) e = true) : PE X e (tI X.K F (evE (g.ctx n) (.c v))) ∧ PT X e (tIT X.K F (evC (g.ctx n) (.c v))) := by
  cases e <;> first | (cases h; done) | skip
  rename_i k kk pos
  have h : cstOk v k = true := h
  have main : PE X (.Constant k kk pos) (tI X.K F (evE (g.ctx n) (.c v))) := by
    cases v <;> cases k <;> first | (cases h; done) | skip
    · exact PE.imp pe_non fun σ H Q q => tI_val q (fun _ _ => rfl) fun r => .non
    · simp only [cstOk, beq_iff_eq] at h
      subst h
      exact PE.imp pe_bl fun σ H Q q => tI_val q (fun _ _ => rfl) fun r => .bl _
    · simp only [cstOk, beq_iff_eq] at h
      subst h
      exact PE.imp pe_int fun σ H Q q => tI_val q (fun _ _ => rfl) fun r => .int _
    · simp only [cstOk, beq_iff_eq] at h
      subst h
      exact PE.imp pe_str fun σ H Q q => tI_val q (fun _ _ => rfl) fun r => .str _
  exact ⟨main, pt_plain _ main fun _ => rfl⟩
theorem snd_v (S : Std X g n N sc so) (i : Nat) (h : chkE g N sc (.v i) e = true) : PE X e (tI X.K F (evE (g.ctx n) (.v i))) ∧ PT X e (tIT X.K F (evC (g.ctx n) (.v i))) := by
  cases e <;> first | (cases h; done) | skip
  rename_i x pos
  have h : nmOk N sc i x = true := h
  simp only [nmOk, Bool.and_eq_true, decide_eq_true_eq, Bool.not_eq_true'] at h
  have main : PE X (.Name x pos) (tI X.K F (evE (g.ctx n) (.v i))) := by
    refine PE.imp (pe_var (i := i) (by rw [S.eN]; exact h.1.1.1) (by rw [S.eS]; exact vis_of h.1.1.2) h.1.2 h.2) fun σ H Q q => ?_
    obtain ⟨r, env, st, R, E, q⟩ := q
    simp only [evE] at q
    split at q
    · rename_i p e1
      obtain ⟨v, e2, hv⟩ := E.get i p e1
      exact ⟨v, e2, q.here R hv⟩
    · exact q.elim
  exact ⟨main, pt_plain _ main fun _ => rfl⟩
theorem snd_g (S : Std X g n N sc so) (y : Str) (h : chkE g N sc (.g y) e = true) : PE X e (tI X.K F (evE (g.ctx n) (.g y))) ∧ PT X e (tIT X.K F (evC (g.ctx n) (.g y))) := by
  cases e <;> first | (cases h; done) | skip
  rename_i x pos
  have h : (decide (x = y) && glb sc x && (g.gl.lookup x).isSome) = true := h
  simp only [Bool.and_eq_true, decide_eq_true_eq] at h
  obtain ⟨⟨rfl, h1⟩, h2⟩ := h
  obtain ⟨p, hp⟩ := Option.isSome_iff_exists.mp h2
  obtain ⟨u, v, hm, rv, rep⟩ := S.link.gl x p hp
  obtain ⟨hg, hd⟩ := S.gl h1
  have main : PE X (.Name x pos) (tI X.K F (evE (g.ctx n) (.g x))) := by
    refine PE.imp (pe_glob hg hm rv hd) fun σ H Q q => tI_val (p := p) q (fun env st => ?_) fun r => rep F H r
    simp only [evE]
    show Out.of (g.gl.lookup x) st = _
    rw [hp]; rfl
  exact ⟨main, pt_plain _ main fun _ => rfl⟩
theorem sub_call (S : Std X g n N sc so) (f : Str) {x : Str} {a : Expr} {ees : List Expr} {p pos : Pos} {es : Exs} (hx : x = f) (hg : glb sc x = true) (ht : (g.tb.lookup f).isSome = true) (hs : (a :: ees).all okS = true) (hl : es.length = (a :: ees).length)
    (ha : PA X (a :: ees) (tIA X.K F (evEs (g.ctx n) es))) : PE X (.Call (.Name x p) (a :: ees) [] pos) (tI X.K F (evE (g.ctx n) (.call f es))) := by
  subst hx
  obtain ⟨fn, hf⟩ := Option.isSome_iff_exists.mp ht
  obtain ⟨ad, fd, hm, hk, G, hb, _⟩ := S.link.fn x fn hf
  obtain ⟨hgl, hd⟩ := S.gl hg
  have hs2 := List.all_cons ▸ hs
  simp only [Bool.and_eq_true] at hs2
  refine PE.imp (pe_cG G S.cal hgl hm hk hb ha hd (okS_star hs2.1 _ _) (okS_any hs2.2 _ _)) fun σ H Q q => ?_
  obtain ⟨r, env, st, R, E, q⟩ := q
  refine ⟨r, env, st, R, E, ?_⟩
  simp only [evE] at q
  cases h1 : evEs (g.ctx n) es env st with
  | exc => rw [h1] at q; exact q.elim
  | bad => rw [h1] at q; exact q.elim
  | ok ps st1 =>
    rw [h1] at q
    exact fun vs H1 r1 A1 R1 hv => ⟨F, r1, st1, ps, R1, hv, q.aft A1⟩
theorem kw_read {K : PySem.W.Frag} {f : Str} {es ks : Exs} {perm : List Nat} {σ : St} {H : Hp} {Q : VK} {a b : Nat} (ha : ∀ (env : Env) st ps st1, evEs (g.ctx n) es env st = .ok ps st1 → ps.length = a) (hb : ∀ (env : Env) st ps st1, evEs (g.ctx n) ks env st = .ok ps st1 → ps.length = b)
    (q : tI K F (evE (g.ctx n) (.callk f es ks perm)) σ H Q) : tIA K F (evEs (g.ctx n) es) σ H fun vs H1 => vs.length = a ∧ tIA K F (evEs (g.ctx n) ks) σ H1 fun zs H2 => zs.length = b ∧ spI K g n f (perm.map fun i => (vs ++ zs).getD i .non) H2 Q := by
  obtain ⟨r, env, st, R, E, q⟩ := q
  refine ⟨r, env, st, R, E, ?_⟩
  simp only [evE] at q
  cases h1 : evEs (g.ctx n) es env st with
  | exc => rw [h1] at q; exact q.elim
  | bad => rw [h1] at q; exact q.elim
  | ok ps st1 =>
    rw [h1] at q
    intro vs H1 r1 A1 R1 hv
    refine ⟨by rw [hv.length]; exact ha _ _ _ _ h1, r1, env, st1, R1, E.aft R A1, ?_⟩
    have q := q.aft A1
    simp only [bind_ok] at q
    cases h2 : evEs (g.ctx n) ks env st1 with
    | exc => rw [h2] at q; exact q.elim
    | bad => rw [h2] at q; exact q.elim
    | ok ps2 st2 =>
      rw [h2] at q
      intro zs H2 r2 A2 R2 hz
      refine ⟨by rw [hz.length]; exact hb _ _ _ _ h2, ?_⟩
      have q := q.aft A2
      simp only [bind_ok] at q
      split at q
      · rename_i ws e1
        exact ⟨F, r2, st2, ws, R2, reps_perm ((hv.aft R1 A2).append hz) perm ws e1, q⟩
      · exact q.elim
theorem evEs_len (C : Ctx) : ∀ (es : Exs) (env : Env) (st : Store) (ps : List PV) (st1 : Store), evEs C es env st = .ok ps st1 → ps.length = es.length
  | .nil, env, st, ps, st1, h => by simp only [evEs] at h; cases h; rfl
  | .cons e es, env, st, ps, st1, h => by
    simp only [evEs] at h
    obtain ⟨x, st2, _, h2⟩ := bind_eq h
    obtain ⟨xs, st3, h3, h4⟩ := bind_eq h2
    cases h4
    exact congrArg (· + 1) (evEs_len C es env st2 xs _ h3)
theorem bi_read {K : PySem.W.Frag} {f : Bi} {fr : Bool} {es : Exs} {σ : St} {H : Hp} {Q : VK} (q : tI K F (evE (g.ctx n) (.bi f fr es)) σ H Q) : tIA K F (evEs (g.ctx n) es) σ H fun vs H1 => rBi K F f fr vs H1 Q := by
  obtain ⟨r, env, st, R, E, q⟩ := q
  refine ⟨r, env, st, R, E, ?_⟩
  simp only [evE] at q
  cases h1 : evEs (g.ctx n) es env st with
  | exc => rw [h1] at q; exact q.elim
  | bad => rw [h1] at q; exact q.elim
  | ok ps st1 =>
    rw [h1] at q
    exact fun vs H1 r1 A1 R1 hv => ⟨r1, st1, ps, R1, hv, q.aft A1⟩
theorem sub_bi (S : Std X g n N sc so) (f : Bi) (fr : Bool) {x : Str} {a : Expr} {ees : List Expr} {p pos : Pos} {es : Exs} (hx : x = biName f) (hg : glb sc x = true) (hb : x ∈ g.bs) (hs : (a :: ees).all okS = true)
    (ha : PA X (a :: ees) (tIA X.K F (evEs (g.ctx n) es))) : PE X (.Call (.Name x p) (a :: ees) [] pos) (tI X.K F (evE (g.ctx n) (.bi f fr es))) := by
  obtain ⟨hgl, hd⟩ := S.gl hg
  have hm := S.link.bs x hb
  have hs2 := List.all_cons ▸ hs
  simp only [Bool.and_eq_true] at hs2
  have hv : bootBuiltins x = some (biVal f) := by rw [hx]; exact boot_bi f
  have hn : x ≠ "__name__" := by rw [hx]; exact name_bi f
  have hc := call_bi (F := F) n S.cal f fr
  have h1 := okS_star hs2.1 ees X.env
  have h2 := okS_any hs2.2 pos X.env
  cases f <;> first
    | exact PE.imp (pe_callB hc hgl hm hv ha hn hd h1 h2) fun σ H Q q => bi_read q
    | exact PE.imp (pe_callTy hc hgl hm hv ha hn hd h1 h2) fun σ H Q q => bi_read q
theorem me_read {K : PySem.W.Frag} {m : Me} {i : Nat} {es : Exs} {σ : St} {H : Hp} {Q : VK} (q : tI K F (evE (g.ctx n) (.me m i es)) σ H Q) :
    ∃ x, σ[i]? = some (some x) ∧ tyV K "list" x H ∧ tIA K F (evEs (g.ctx n) es) σ H fun vs H1 => rMe K F m x vs H1 Q := by
  obtain ⟨r, env, st, R, E, q⟩ := q
  simp only [evE] at q
  split at q
  · rename_i l e1
    obtain ⟨v, e2, hv⟩ := E.get i _ e1
    cases hv with
    | @loc a _ hl =>
      obtain ⟨xs, ws, c1, c2, _⟩ := R.cell hl
      refine ⟨_, e2, .inl ⟨rfl, _, .of c2⟩, r, env, st, R, E, ?_⟩
      cases h1 : evEs (g.ctx n) es env st with
      | exc => rw [h1] at q; exact q.elim
      | bad => rw [h1] at q; exact q.elim
      | ok ps st1 =>
        rw [h1] at q
        exact fun vs H1 r1 A1 R1 hv => ⟨r1, st1, l, a, ps, rfl, R1, A1.get hl, hv, q.aft A1⟩
  · exact q.elim
theorem sub_me (S : Std X g n N sc so) (m : Me) (i : Nat) {x y : Str} {ees : List Expr} {py apos cpos : Pos} {es : Exs} (hy : nmOk N sc i y = true) (hx : x = meName m) (hline : (apos.endLine == cpos.line) = true) (hl : ees.length ≤ 1) (hs : ees.all okS = true)
    (ha : PA X ees (tIA X.K F (evEs (g.ctx n) es))) (hes : es.length = ees.length) : PE X (.Call (.Attribute (.Name y py) x apos) ees [] cpos) (tI X.K F (evE (g.ctx n) (.me m i es))) := by
  simp only [nmOk, Bool.and_eq_true, decide_eq_true_eq, Bool.not_eq_true'] at hy
  have ho : PE X (.Name y py) (tVar i) := pe_var (i := i) (by rw [S.eN]; exact hy.1.1.1) (by rw [S.eS]; exact vis_of hy.1.1.2) hy.1.2 hy.2
  have hm := mt_me (X := X) (F := F) m
  subst hx
  match ees, hl, hs, ha, hes with
  | [], _, _, ha, hes =>
    have main : ∀ {name : Str} {id : String} {r}, Slot "list" name id → typeOf (.builtin id) = pure (.type "method_descriptor") → MtR X id r → PE X (.Call (.Attribute (.Name y py) name apos) [] [] cpos) (tBM0 X.K "list" r (tVar i)) :=
      fun s t h => pe_bm0 PySem.F.plainAttrs_list s t h ho rfl hline
    have rd : ∀ σ H Q, tI X.K F (evE (g.ctx n) (.me m i es)) σ H Q → tBM0 X.K "list" (rMe X.K F m) (tVar i) σ H Q := fun σ H Q q => by
      obtain ⟨x, e1, ty, r, env, st, R, E, q⟩ := me_read q
      refine ⟨x, e1, ty, ?_⟩
      cases es with
      | nil => exact q [] H r .refl R .nil
      | cons _ _ => cases hes
    cases m with
    | append => exact PE.imp (main PySem.F.slot_list_append PySem.F.type_list_append hm) rd
    | extend => exact PE.imp (main PySem.F.slot_list_extend PySem.F.type_list_extend hm) rd
    | pop => exact PE.imp (main PySem.F.slot_list_pop PySem.F.type_list_pop hm) rd
  | [a], _, hs, ha, _ =>
    have hs2 := List.all_cons ▸ hs
    simp only [Bool.and_eq_true] at hs2
    have h1 := okS_star hs2.1 [] X.env
    have main : ∀ {name : Str} {id : String} {r}, Slot "list" name id → typeOf (.builtin id) = pure (.type "method_descriptor") → MtR X id r → PE X (.Call (.Attribute (.Name y py) name apos) [a] [] cpos) (tBM X.K "list" r (tVar i) (tIA X.K F (evEs (g.ctx n) es))) :=
      fun s t h => pe_bm PySem.F.plainAttrs_list s t h ho ha rfl (by rw [h1]; rfl) hline h1 rfl
    have rd : ∀ σ H Q, tI X.K F (evE (g.ctx n) (.me m i es)) σ H Q → tBM X.K "list" (rMe X.K F m) (tVar i) (tIA X.K F (evEs (g.ctx n) es)) σ H Q := fun σ H Q q => by
      obtain ⟨x, e1, ty, q⟩ := me_read q
      exact ⟨x, e1, ty, q⟩
    cases m with
    | append => exact PE.imp (main PySem.F.slot_list_append PySem.F.type_list_append hm) rd
    | extend => exact PE.imp (main PySem.F.slot_list_extend PySem.F.type_list_extend hm) rd
    | pop => exact PE.imp (main PySem.F.slot_list_pop PySem.F.type_list_pop hm) rd
  | _ :: _ :: _, hl, _, _, _ => simp at hl
end
end L2.Iv

/-! IvI: expressions do what the language says: the induction itself. Own work. -/
namespace L2.Iv
open PySem PySem.Spec PyProof.Rows

section
variable {X : Cx} {g : Sg} {n : Nat} {N : List Str} {sc so : Scope} {F : List Addr} {e : Expr}
theorem in_last {op : CmpOp} {b : Expr} (h : okS b = true) : behindInMarks op b = false := okS_in h op
theorem last_marks {op op' : CmpOp} {b c : Expr} (h : okS c = true) : lastMarks [op, op'] [b, c] = false := okS_in h op'
/-- what the induction says of a list of expressions -/
structure SndEs (X : Cx) (g : Sg) (n : Nat) (es : Exs) (ees : List Expr) : Prop where
  ok : ees.all okS = true
  len : es.length = ees.length
  pa : ∀ F, PA X ees (tIA X.K F (evEs (g.ctx n) es))
  pk : ∀ (kws : List Keyword), kws.map (·.value) = ees → ∀ F, PK X kws (tIA X.K F (evEs (g.ctx n) es))
  and : ees ≠ [] → ∀ F pos, PE X (.BoolOp .And ees pos) (tI X.K F (evAnd (g.ctx n) es)) ∧ PW X (.BoolOp .And ees pos) (tIT X.K F fun env st => (evAnd (g.ctx n) es env st).bind fun x st1 => Out.of (truthy st1 x) st1)
  or : ees ≠ [] → ∀ F pos, PE X (.BoolOp .Or ees pos) (tI X.K F (evOr (g.ctx n) es)) ∧ PW X (.BoolOp .Or ees pos) (tIT X.K F fun env st => (evOr (g.ctx n) es env st).bind fun x st1 => Out.of (truthy st1 x) st1)
  ts : ees.length ≤ 1 → PTs X ees (tTX X.K (evTests (g.ctx n) es))
theorem PW.imp {e : Expr} {t t' : TT} (h : PW X e t) (i : ∀ σ H Q, t' σ H Q → t σ H Q) : PW X e t' := ⟨fun w pins s σ H Q I q => h.run w pins s σ H Q I (i _ _ _ q)⟩
theorem PTs.imp {e : List Expr} {t t' : TT} (h : PTs X e t) (i : ∀ σ H Q, t' σ H Q → t σ H Q) : PTs X e t' := ⟨fun pins s σ H Q I q => h.run pins s σ H Q I (i _ _ _ q)⟩
theorem PI.imp {tg e : Expr} {t t' : TI} (h : PI X tg e t) (i : ∀ σ H Q, t' σ H Q → t σ H Q) : PI X tg e t' := ⟨fun pins s σ H Q I q => h.run pins s σ H Q I (i _ _ _ q)⟩
theorem PK.imp {e : List Keyword} {t t' : TA} (h : PK X e t) (i : ∀ σ H Q, t' σ H Q → t σ H Q) : PK X e t' := ⟨fun pos pins s σ H Q I q => h.run pos pins s σ H Q I (i _ _ _ q)⟩
theorem pts_any {ifs : List Expr} {o : Env → Store → Out Bool} (h : ∀ F, PTs X ifs (tIT X.K F o)) : PTs X ifs (tTX X.K o) := ⟨fun pins s σ H Q I ⟨F, q⟩ => (h F).run pins s σ H Q I q⟩
theorem pe_any {e : Expr} {o : Env → Store → Out PV} (h : ∀ F, PE X e (tI X.K F o)) : PE X e (tX X.K o) := ⟨fun pins s σ H Q I ⟨F, q⟩ => (h F).run pins s σ H Q I q⟩
theorem pi_any {tg e : Expr} {o : Env → Store → Out (List PV × Watch)} (h : ∀ F, PI X tg e (iI X.K F o)) : PI X tg e (iX X.K o) := ⟨fun pins s σ H Q I ⟨F, q⟩ => (h F).run pins s σ H Q I q⟩
theorem pg_any {tg : Expr} {p : Pt} (h : ∀ F, PG X tg (gI X.K F p)) : PG X tg (gX X.K p) := ⟨fun pins s σ H v u Q I r ⟨F, q⟩ => (h F).run pins s σ H v u Q I r q⟩
theorem cons_read {K : PySem.W.Frag} {C : Ctx} {a : Ex} {es : Exs} {σ : St} {H : Hp} {Q : List V → Hp → Prop} (q : tIA K F (evEs C (.cons a es)) σ H Q) : tCons (tI K F (evE C a)) (tIA K F (evEs C es)) σ H Q := by
  obtain ⟨r, env, st, R, E, q⟩ := q
  refine ⟨r, env, st, R, E, ?_⟩
  simp only [evEs] at q
  cases h1 : evE C a env st with
  | exc => rw [h1] at q; exact q.elim
  | bad => rw [h1] at q; exact q.elim
  | ok p st1 =>
    rw [h1] at q
    intro v H1 r1 A1 R1 hv
    refine ⟨r1, env, st1, R1, E.aft R A1, ?_⟩
    have q := q.aft A1
    simp only [bind_ok] at q
    cases h2 : evEs C es env st1 with
    | exc => rw [h2] at q; exact q.elim
    | bad => rw [h2] at q; exact q.elim
    | ok ps st2 =>
      rw [h2] at q
      exact fun vs H2 r2 A2 R2 hvs => q (v :: vs) H2 r2 A2 R2 (.cons (hv.aft R1 A2) hvs)
theorem nil_read {K : PySem.W.Frag} {C : Ctx} {σ : St} {H : Hp} {Q : List V → Hp → Prop} (q : tIA K F (evEs C .nil) σ H Q) : Q [] H := by
  obtain ⟨r, env, st, R, E, q⟩ := q
  exact q [] H r .refl R .nil
theorem and_read {K : PySem.W.Frag} {C : Ctx} {a b : Ex} {es : Exs} {σ : St} {H : Hp} {Q : VK} (q : tI K F (evAnd C (.cons a (.cons b es))) σ H Q) : tAndT K (tI K F (evE C a)) (tI K F (evAnd C (.cons b es))) σ H Q := by
  have q : tI K F (fun env st => (evE C a env st).bind fun x st1 => match truthy st1 x with
    | some true => evAnd C (.cons b es) env st1
    | some false => .ok x st1
    | none => .bad) σ H Q := tI.eq q fun env st => by
    rw [evAnd] <;> first
      | rfl
      | (intro z; cases z)
  have q := tI.step q
  obtain ⟨r, env, st, R, E, q⟩ := q
  refine ⟨r, env, st, R, E, ?_⟩
  cases h1 : evE C a env st with
  | exc => rw [h1] at q; exact q.elim
  | bad => rw [h1] at q; exact q.elim
  | ok p st1 =>
    rw [h1] at q
    intro v H1 r1 A1 R1 hv
    obtain ⟨r2, env2, st2, p2, R2, E2, hv2, q⟩ := q v H1 r1 A1 R1 hv
    split at q
    · rename_i e1
      exact ⟨true, tru_of R2 hv2 e1, by rw [if_pos rfl]; exact ⟨r2, env2, st2, R2, E2, q⟩⟩
    · rename_i e1
      exact ⟨false, tru_of R2 hv2 e1, by rw [if_neg Bool.false_ne_true]; exact q.here R2 hv2⟩
    · exact q.elim
theorem or_read {K : PySem.W.Frag} {C : Ctx} {a b : Ex} {es : Exs} {σ : St} {H : Hp} {Q : VK} (q : tI K F (evOr C (.cons a (.cons b es))) σ H Q) : tOrT K (tI K F (evE C a)) (tI K F (evOr C (.cons b es))) σ H Q := by
  have q : tI K F (fun env st => (evE C a env st).bind fun x st1 => match truthy st1 x with
    | some true => .ok x st1
    | some false => evOr C (.cons b es) env st1
    | none => .bad) σ H Q := tI.eq q fun env st => by
    rw [evOr] <;> first
      | rfl
      | (intro z; cases z)
  have q := tI.step q
  obtain ⟨r, env, st, R, E, q⟩ := q
  refine ⟨r, env, st, R, E, ?_⟩
  cases h1 : evE C a env st with
  | exc => rw [h1] at q; exact q.elim
  | bad => rw [h1] at q; exact q.elim
  | ok p st1 =>
    rw [h1] at q
    intro v H1 r1 A1 R1 hv
    obtain ⟨r2, env2, st2, p2, R2, E2, hv2, q⟩ := q v H1 r1 A1 R1 hv
    split at q
    · rename_i e1
      exact ⟨true, tru_of R2 hv2 e1, by rw [if_pos rfl]; exact q.here R2 hv2⟩
    · rename_i e1
      exact ⟨false, tru_of R2 hv2 e1, by rw [if_neg Bool.false_ne_true]; exact ⟨r2, env2, st2, R2, E2, q⟩⟩
    · exact q.elim

mutual
theorem snd_E : ∀ (ex : Ex) {X : Cx} {N : List Str} {sc so : Scope} (S : Std X g n N sc so) {e : Expr}, chkE g N sc ex e = true → ∀ F, PE X e (tI X.K F (evE (g.ctx n) ex)) ∧ PT X e (tIT X.K F (evC (g.ctx n) ex))
  | .c v, _, _, _, _, S, _, h, F => snd_c v h
  | .v i, _, _, _, _, S, _, h, F => snd_v S i h
  | .g y, _, _, _, _, S, _, h, F => snd_g S y h
  | .bin o fr a b, X, N, sc, so, S, e, h, F => by
    cases e <;> first | (cases h; done) | skip
    rename_i ea op eb pos
    have h : (decide (op = opB o) && chkE g N sc a ea && chkE g N sc b eb) = true := h
    simp only [Bool.and_eq_true, decide_eq_true_eq] at h
    obtain ⟨⟨rfl, h1⟩, h2⟩ := h
    have main : PE X (.BinOp ea (opB o) eb pos) (tI X.K F (evE (g.ctx n) (.bin o fr a b))) :=
      PE.imp (pe_op (op_bin (F := F) o fr) (snd_E a S h1 F).1 (snd_E b S h2 F).1) fun σ H Q q => two_read (f := fun p q st => binV o fr st p q) q
    exact ⟨main, pt_plain _ main fun _ => rfl⟩
  | .neg a, X, N, sc, so, S, e, h, F => by
    cases e <;> first | (cases h; done) | skip
    rename_i op ea pos
    cases op <;> first | (cases h; done) | skip
    have h : chkE g N sc a ea = true := h
    have main : PE X (.UnaryOp .USub ea pos) (tI X.K F (evE (g.ctx n) (.neg a))) := PE.imp (pe_un un_neg (snd_E a S h F).1) fun σ H Q q => by
      have q := tI.step q
      obtain ⟨r, env, st, R, E, q⟩ := q
      refine ⟨r, env, st, R, E, ?_⟩
      cases h1 : evE (g.ctx n) a env st with
      | exc => rw [h1] at q; exact q.elim
      | bad => rw [h1] at q; exact q.elim
      | ok p st1 =>
        rw [h1] at q
        intro v H1 r1 A1 R1 hv
        obtain ⟨r2, env2, st2, p2, R2, E2, hv2, q⟩ := q v H1 r1 A1 R1 hv
        cases hv2 with
        | int i => exact ⟨i, rfl, q.here R2 (.int _)⟩
        | _ => exact q.elim
    exact ⟨main, pt_plain _ main fun _ => rfl⟩
  | .nt a, X, N, sc, so, S, e, h, F => by
    cases e <;> first | (cases h; done) | skip
    rename_i op ea pos
    cases op <;> first | (cases h; done) | skip
    have h : chkE g N sc a ea = true := h
    refine ⟨PE.imp (pe_notT (snd_E a S h F).1) fun σ H Q q => ?_, PT.imp (pt_not (snd_E a S h F).2) fun σ H Q q => ?_⟩
    · have q := tI.step q
      obtain ⟨r, env, st, R, E, q⟩ := q
      refine ⟨r, env, st, R, E, ?_⟩
      cases h1 : evE (g.ctx n) a env st with
      | exc => rw [h1] at q; exact q.elim
      | bad => rw [h1] at q; exact q.elim
      | ok p st1 =>
        rw [h1] at q
        intro v H1 r1 A1 R1 hv
        obtain ⟨r2, env2, st2, p2, R2, E2, hv2, q⟩ := q v H1 r1 A1 R1 hv
        split at q
        · exact ⟨_, tru_of R2 hv2 (by assumption), q.here R2 (.bl _)⟩
        · exact q.elim
    · have q := tIT.step2 (o := evC (g.ctx n) a) (f := fun b env st => .ok (!b) st) (tIT.eq q fun env st => by
        unfold evC
        simp only [evE]
        cases evE (g.ctx n) a env st with
        | exc => rfl
        | bad => rfl
        | ok p st1 =>
          simp only [bind_ok]
          cases truthy st1 p <;> rfl)
      obtain ⟨r, env, st, R, E, q⟩ := q
      refine ⟨r, env, st, R, E, ?_⟩
      cases h1 : evC (g.ctx n) a env st with
      | exc => rw [h1] at q; exact q.elim
      | bad => rw [h1] at q; exact q.elim
      | ok p st1 =>
        rw [h1] at q
        intro H1 r1 A1 R1
        obtain ⟨r2, env2, st2, R2, E2, q⟩ := q H1 r1 A1 R1
        exact q H1 r2 .refl R2
  | .cmp o a b, X, N, sc, so, S, e, h, F => by
    cases e <;> first | (cases h; done) | skip
    rename_i ea ops ebs pos
    match ops, ebs, h with
    | [op], [eb], h =>
      have h : (decide (op = opC o) && chkE g N sc a ea && chkE g N sc b eb) = true := h
      simp only [Bool.and_eq_true, decide_eq_true_eq] at h
      obtain ⟨⟨rfl, h1⟩, h2⟩ := h
      refine ⟨PE.imp (pe_cmpR (op_cmp (F := F) n S.cal o) (snd_E a S h1 F).1 (snd_E b S h2 F).1 (in_last (chk_okS h2))) fun σ H Q q => ?_,
        PT.imp (pt_cmpR (op_cmp (F := F) n S.cal o) (snd_E a S h1 F).1 (snd_E b S h2 F).1 (in_last (chk_okS h2))) fun σ H Q q => ?_⟩
      · have q := two_read (f := fun p q st => (Out.of (cmpV o st p q) st).bind fun b st3 => .ok (.bl b) st3) q
        obtain ⟨r, env, st, R, E, q⟩ := q
        refine ⟨r, env, st, R, E, ?_⟩
        cases h1 : evE (g.ctx n) a env st with
        | exc => rw [h1] at q; exact q.elim
        | bad => rw [h1] at q; exact q.elim
        | ok p st1 =>
          rw [h1] at q
          intro v H1 r1 A1 R1 hv
          obtain ⟨r2, env2, st2, R2, E2, q⟩ := q v H1 r1 A1 R1 hv
          refine ⟨r2, env2, st2, R2, E2, ?_⟩
          cases h3 : evE (g.ctx n) b env2 st2 with
          | exc => rw [h3] at q; exact q.elim
          | bad => rw [h3] at q; exact q.elim
          | ok p2 st3 =>
            rw [h3] at q
            intro v2 H4 r4 A4 R4 hv4
            obtain ⟨r5, st5, p5, q5, R5, hp, hq, q⟩ := q v2 H4 r4 A4 R4 hv4
            obtain ⟨k, e1, q⟩ := post_cmp R5 q
            exact ⟨r5, st5, p5, q5, k, R5, hp, hq, e1, q⟩
      · have q := two_readT (f := fun p q st => ((Out.of (cmpV o st p q) st).bind fun b st3 => .ok (PV.bl b) st3).bind fun x st1 => Out.of (truthy st1 x) st1) (tIT.eq q fun env st => by
          unfold evC
          simp only [evE]
          rw [bind_assoc']
          congr 1
          funext x st1
          rw [bind_assoc'])
        obtain ⟨r, env, st, R, E, q⟩ := q
        refine ⟨r, env, st, R, E, ?_⟩
        cases h1 : evE (g.ctx n) a env st with
        | exc => rw [h1] at q; exact q.elim
        | bad => rw [h1] at q; exact q.elim
        | ok p st1 =>
          rw [h1] at q
          intro v H1 r1 A1 R1 hv
          obtain ⟨r2, env2, st2, R2, E2, q⟩ := q v H1 r1 A1 R1 hv
          refine ⟨r2, env2, st2, R2, E2, ?_⟩
          cases h3 : evE (g.ctx n) b env2 st2 with
          | exc => rw [h3] at q; exact q.elim
          | bad => rw [h3] at q; exact q.elim
          | ok p2 st3 =>
            rw [h3] at q
            intro v2 H4 r4 A4 R4 hv4
            obtain ⟨r5, st5, p5, q5, R5, hp, hq, q⟩ := q v2 H4 r4 A4 R4 hv4
            obtain ⟨k, e1, q⟩ := post_tru R5 q
            exact ⟨r5, st5, p5, q5, k, R5, hp, hq, e1, k, rfl, q⟩
    | [], _, h => cases h
    | _ :: _ :: _, [], h => cases h
    | _ :: _ :: _, _ :: _, h => cases h
    | [_], [], h => cases h
    | [_], _ :: _ :: _, h => cases h
  | .chn o o2 a b c, X, N, sc, so, S, e, h, F => by
    cases e <;> first | (cases h; done) | skip
    rename_i ea ops ebs pos
    match ops, ebs, h with
    | [op, op2], [eb, ec], h =>
      have h : (decide (op = opC o) && decide (op2 = opC o2) && chkE g N sc a ea && chkE g N sc b eb && chkE g N sc c ec) = true := h
      simp only [Bool.and_eq_true, decide_eq_true_eq] at h
      obtain ⟨⟨⟨⟨rfl, rfl⟩, h1⟩, h2⟩, h3⟩ := h
      have rd : ∀ σ H Q, tI X.K F (evE (g.ctx n) (.chn o o2 a b c)) σ H Q → tChain (rC X.K F o) (rC X.K F o2) (tI X.K F (evE (g.ctx n) a)) (tI X.K F (evE (g.ctx n) b)) (tI X.K F (evE (g.ctx n) c)) σ H Q := by
        intro σ H Q q
        obtain ⟨r, env, st, R, E, q⟩ := q
        refine ⟨r, env, st, R, E, ?_⟩
        simp only [evE] at q
        cases k1 : evE (g.ctx n) a env st with
        | exc => rw [k1] at q; exact q.elim
        | bad => rw [k1] at q; exact q.elim
        | ok p st1 =>
          rw [k1] at q
          intro v H1 r1 A1 R1 hv
          have q := q.aft A1
          simp only [bind_ok] at q
          refine ⟨r1, env, st1, R1, E.aft R A1, ?_⟩
          cases k2 : evE (g.ctx n) b env st1 with
          | exc => rw [k2] at q; exact q.elim
          | bad => rw [k2] at q; exact q.elim
          | ok p2 st2 =>
            rw [k2] at q
            intro v2 H2 r2 A2 R2 hv2
            have q := q.aft A2
            simp only [bind_ok] at q
            cases k3 : cmpV o st2 p p2 with
            | none => rw [k3] at q; exact q.elim
            | some k =>
              rw [k3] at q
              simp only [of_some, bind_ok] at q
              refine ⟨r2, st2, p, p2, k, R2, hv.aft R1 A2, hv2, k3, k, rfl, ?_⟩
              cases k with
              | false => rw [if_neg Bool.false_ne_true] at q ⊢; exact q.here R2 (.bl _)
              | true =>
                rw [if_pos rfl] at q ⊢
                refine ⟨r2, env, st2, R2, (E.aft R A1).aft R1 A2, ?_⟩
                cases k4 : evE (g.ctx n) c env st2 with
                | exc => rw [k4] at q; exact q.elim
                | bad => rw [k4] at q; exact q.elim
                | ok p3 st3 =>
                  rw [k4] at q
                  intro v3 H3 r3 A3 R3 hv3
                  have q := q.aft A3
                  simp only [bind_ok] at q
                  obtain ⟨b, e1, q⟩ := post_cmp R3 q
                  exact ⟨r3, st3, p2, p3, b, R3, hv2.aft R2 A3, hv3, e1, q⟩
      refine ⟨PE.imp (pe_chain (op_cmp (F := F) n S.cal o) (op_cmp (F := F) n S.cal o2) (snd_E a S h1 F).1 (snd_E b S h2 F).1 (snd_E c S h3 F).1 (last_marks (chk_okS h3))) rd,
        PT.imp (pt_chain (op_cmp (F := F) n S.cal o) (op_cmp (F := F) n S.cal o2) (snd_E a S h1 F).1 (snd_E b S h2 F).1 (snd_E c S h3 F).1 (last_marks (chk_okS h3))) fun σ H Q q => rd σ H _ ?_⟩
      obtain ⟨r, env, st, R, E, q⟩ := q
      refine ⟨r, env, st, R, E, ?_⟩
      unfold evC at q
      cases k1 : evE (g.ctx n) (.chn o o2 a b c) env st with
      | exc => rw [k1] at q; exact q.elim
      | bad => rw [k1] at q; exact q.elim
      | ok p st1 =>
        rw [k1] at q
        have isb : ∃ k, p = .bl k := by
          simp only [evE] at k1
          obtain ⟨_, _, _, k1⟩ := bind_eq k1
          obtain ⟨_, _, _, k1⟩ := bind_eq k1
          obtain ⟨k, _, _, k1⟩ := bind_eq k1
          cases k with
          | false => rw [if_neg Bool.false_ne_true] at k1; cases k1; exact ⟨_, rfl⟩
          | true =>
            rw [if_pos rfl] at k1
            obtain ⟨_, _, _, k1⟩ := bind_eq k1
            obtain ⟨_, _, _, k1⟩ := bind_eq k1
            cases k1; exact ⟨_, rfl⟩
        obtain ⟨k, rfl⟩ := isb
        intro v H1 r1 A1 R1 hv
        cases hv
        exact ⟨k, rfl, q H1 r1 A1 R1⟩
    | [], _, h => cases h
    | [_], [], h => cases h
    | [_], _ :: _, h => cases h
    | _ :: _ :: _ :: _, [], h => cases h
    | _ :: _ :: _ :: _, _ :: _, h => cases h
    | [_, _], [], h => cases h
    | [_, _], [_], h => cases h
    | [_, _], _ :: _ :: _ :: _, h => cases h
  | .ands es, X, N, sc, so, S, e, h, F => by
    cases e <;> first | (cases h; done) | skip
    rename_i op ees pos
    cases op <;> first | (cases h; done) | skip
    have h : (decide (2 ≤ ees.length) && chkEs g N sc es ees) = true := h
    simp only [Bool.and_eq_true, decide_eq_true_eq] at h
    obtain ⟨q1, q2⟩ := (snd_Es es S h.2).and (fun z => by rw [z] at h; simp at h) F pos
    exact ⟨q1, q2.pt⟩
  | .ors es, X, N, sc, so, S, e, h, F => by
    cases e <;> first | (cases h; done) | skip
    rename_i op ees pos
    cases op <;> first | (cases h; done) | skip
    have h : (decide (2 ≤ ees.length) && chkEs g N sc es ees) = true := h
    simp only [Bool.and_eq_true, decide_eq_true_eq] at h
    obtain ⟨q1, q2⟩ := (snd_Es es S h.2).or (fun z => by rw [z] at h; simp at h) F pos
    exact ⟨q1, q2.pt⟩
  | .ite c a b, X, N, sc, so, S, e, h, F => by
    cases e <;> first | (cases h; done) | skip
    rename_i ec ea eb pos
    have h : (chkE g N sc c ec && chkE g N sc a ea && chkE g N sc b eb) = true := h
    simp only [Bool.and_eq_true] at h
    obtain ⟨⟨h1, h2⟩, h3⟩ := h
    have eqn : ∀ env st, evE (g.ctx n) (.ite c a b) env st = (evC (g.ctx n) c env st).bind fun k st1 => if k = true then evE (g.ctx n) a env st1 else evE (g.ctx n) b env st1 := by
      intro env st
      unfold evC
      simp only [evE]
      cases evE (g.ctx n) c env st with
      | exc => rfl
      | bad => rfl
      | ok p st1 =>
        simp only [bind_ok]
        cases truthy st1 p with
        | none => rfl
        | some k => cases k <;> rfl
    refine ⟨PE.imp (pe_ifExp (snd_E c S h1 F).2 (snd_E a S h2 F).1 (snd_E b S h3 F).1) fun σ H Q q => ?_, PT.imp (pt_if (snd_E c S h1 F).2 (snd_E a S h2 F).2 (snd_E b S h3 F).2) fun σ H Q q => ?_⟩
    · have q := tIT.step (f := fun k env st1 => if k = true then evE (g.ctx n) a env st1 else evE (g.ctx n) b env st1) (tI.eq q eqn)
      obtain ⟨r, env, st, R, E, q⟩ := q
      refine ⟨r, env, st, R, E, ?_⟩
      cases k1 : evC (g.ctx n) c env st with
      | exc => rw [k1] at q; exact q.elim
      | bad => rw [k1] at q; exact q.elim
      | ok k st1 =>
        rw [k1] at q
        intro H1 r1 A1 R1
        have q := q H1 r1 A1 R1
        cases k <;> exact q
    · have q := tIT.step2 (f := fun k env st1 => if k = true then evC (g.ctx n) a env st1 else evC (g.ctx n) b env st1) (tIT.eq q fun env st => by
        show (evE (g.ctx n) (.ite c a b) env st).bind _ = _
        rw [eqn, bind_assoc']
        congr 1
        funext k st1
        cases k <;> rfl)
      obtain ⟨r, env, st, R, E, q⟩ := q
      refine ⟨r, env, st, R, E, ?_⟩
      cases k1 : evC (g.ctx n) c env st with
      | exc => rw [k1] at q; exact q.elim
      | bad => rw [k1] at q; exact q.elim
      | ok k st1 =>
        rw [k1] at q
        intro H1 r1 A1 R1
        have q := q H1 r1 A1 R1
        cases k <;> exact q
  | .tup es, X, N, sc, so, S, e, h, F => by
    cases e <;> first | (cases h; done) | skip
    rename_i ees k pos
    have h : chkEs g N sc es ees = true := h
    have main : PE X (.Tuple ees k pos) (tI X.K F (evE (g.ctx n) (.tup es))) := PE.imp (pe_tup ((snd_Es es S h).pa F)) fun σ H Q q => by
      obtain ⟨r, env, st, R, E, q⟩ := q
      refine ⟨r, env, st, R, E, ?_⟩
      simp only [evE] at q
      cases k1 : evEs (g.ctx n) es env st with
      | exc => rw [k1] at q; exact q.elim
      | bad => rw [k1] at q; exact q.elim
      | ok ps st1 =>
        rw [k1] at q
        intro vs H1 r1 A1 R1 hv
        have q := q.aft A1
        simp only [bind_ok] at q
        split at q
        · exact ⟨by rw [hv.length]; assumption, q.tup R1 hv⟩
        · exact q.elim
    exact ⟨main, pt_plain _ main fun _ => rfl⟩
  | .lst fr es, X, N, sc, so, S, e, h, F => by
    cases e <;> first | (cases h; done) | skip
    rename_i ees pos
    have h : chkEs g N sc es ees = true := h
    have main : PE X (.List ees pos) (tI X.K F (evE (g.ctx n) (.lst fr es))) := PE.imp (pe_lst ((snd_Es es S h).pa F)) fun σ H Q q => by
      obtain ⟨r, env, st, R, E, q⟩ := q
      refine ⟨r, env, st, R, E, ?_⟩
      simp only [evE] at q
      cases k1 : evEs (g.ctx n) es env st with
      | exc => rw [k1] at q; exact q.elim
      | bad => rw [k1] at q; exact q.elim
      | ok ps st1 =>
        rw [k1] at q
        intro vs H1 r1 A1 R1 hv
        have q := q.aft A1
        simp only [bind_ok] at q
        split at q
        · exact ⟨by rw [hv.length]; assumption, q.lst R1 hv⟩
        · exact q.elim
    exact ⟨main, pt_plain _ main fun _ => rfl⟩
  | .ix a b, X, N, sc, so, S, e, h, F => by
    cases e <;> first | (cases h; done) | skip
    rename_i ea eb pos
    have h : (chkE g N sc a ea && chkE g N sc b eb) = true := h
    simp only [Bool.and_eq_true] at h
    have main : PE X (.Subscript ea eb pos) (tI X.K F (evE (g.ctx n) (.ix a b))) := PE.imp (pe_ix (ix_all (F := F)) (snd_E a S h.1 F).1 (snd_E b S h.2 F).1 (okS_ix (chk_okS h.2))) fun σ H Q q => by
      have q := two_read (f := fun p q st => Out.of (ixV st p q) st) q
      obtain ⟨r, env, st, R, E, q⟩ := q
      refine ⟨r, env, st, R, E, ?_⟩
      cases h1 : evE (g.ctx n) a env st with
      | exc => rw [h1] at q; exact q.elim
      | bad => rw [h1] at q; exact q.elim
      | ok p st1 =>
        rw [h1] at q
        intro v H1 r1 A1 R1 hv
        obtain ⟨r2, env2, st2, R2, E2, q⟩ := q v H1 r1 A1 R1 hv
        refine ⟨r2, env2, st2, R2, E2, ?_⟩
        cases h3 : evE (g.ctx n) b env2 st2 with
        | exc => rw [h3] at q; exact q.elim
        | bad => rw [h3] at q; exact q.elim
        | ok p2 st3 =>
          rw [h3] at q
          intro v2 H4 r4 A4 R4 hv4
          obtain ⟨r5, st5, p5, q5, R5, hp, hq, q⟩ := q v2 H4 r4 A4 R4 hv4
          cases e1 : ixV st5 p5 q5 with
          | none => rw [e1] at q; exact q.elim
          | some z =>
            rw [e1] at q
            exact ⟨r5, st5, p5, q5, z, R5, hp, hq, e1, fun w hw => Post.here R5 q hw⟩
    exact ⟨main, pt_plain _ main fun _ => rfl⟩
  | .slA fr a lo hi, X, N, sc, so, S, e, h, F => by
    cases e <;> first | (cases h; done) | skip
    rename_i ea es pos
    cases es <;> first | (cases h; done) | skip
    rename_i l u t p2
    match l, u, t, h with
    | some el, some eh, none, h =>
      have h : (chkE g N sc a ea && chkE g N sc lo el && chkE g N sc hi eh) = true := h
      simp only [Bool.and_eq_true] at h
      have main : PE X (.Subscript ea (.Slice (some el) (some eh) none p2) pos) (tI X.K F (evE (g.ctx n) (.slA fr a lo hi))) :=
        PE.imp (pe_slice (sl_all (F := F) fr) (snd_E a S h.1.1 F).1 (po_some (snd_E lo S h.1.2 F).1) (po_some (snd_E hi S h.2 F).1)) fun σ H Q q => by
          obtain ⟨r, env, st, R, E, q⟩ := q
          refine ⟨r, env, st, R, E, ?_⟩
          simp only [evE] at q
          cases k1 : evE (g.ctx n) a env st with
          | exc => rw [k1] at q; exact q.elim
          | bad => rw [k1] at q; exact q.elim
          | ok p st1 =>
            rw [k1] at q
            intro v H1 r1 A1 R1 hv
            have q := q.aft A1
            simp only [bind_ok] at q
            refine ⟨r1, env, st1, R1, E.aft R A1, ?_⟩
            cases k2 : evE (g.ctx n) lo env st1 with
            | exc => rw [k2] at q; exact q.elim
            | bad => rw [k2] at q; exact q.elim
            | ok p2 st2 =>
              rw [k2] at q
              intro v2 H2 r2 A2 R2 hv2
              have q := q.aft A2
              simp only [bind_ok] at q
              cases k3 : evE (g.ctx n) hi env st2 with
              | exc => rw [k3] at q; exact q.elim
              | bad => rw [k3] at q; exact q.elim
              | ok p3 st3 =>
                rw [k3] at q
                simp only [bind_ok] at q
                cases hv2 with
                | int i =>
                  refine ⟨i, rfl, r2, env, st2, R2, (E.aft R A1).aft R1 A2, ?_⟩
                  rw [k3]
                  intro v3 H3 r3 A3 R3 hv3
                  have q := q.aft A3
                  cases hv3 with
                  | int j => exact ⟨j, rfl, r3, st3, p, R3, (hv.aft R1 A2).aft R2 A3, q⟩
                  | _ => exact q.elim
                | _ => cases p3 <;> exact q.elim
      exact ⟨main, pt_plain _ main fun _ => rfl⟩
    | none, none, _, h => cases h
    | none, some _, _, h => cases h
    | some _, none, _, h => cases h
    | some _, some _, some _, h => cases h
  | .slF fr a lo, X, N, sc, so, S, e, h, F => by
    cases e <;> first | (cases h; done) | skip
    rename_i ea es pos
    cases es <;> first | (cases h; done) | skip
    rename_i l u t p2
    match l, u, t, h with
    | some el, none, none, h =>
      have h : (chkE g N sc a ea && chkE g N sc lo el) = true := h
      simp only [Bool.and_eq_true] at h
      have main : PE X (.Subscript ea (.Slice (some el) none none p2) pos) (tI X.K F (evE (g.ctx n) (.slF fr a lo))) :=
        PE.imp (pe_slice (sl_all (F := F) fr) (snd_E a S h.1 F).1 (po_some (snd_E lo S h.2 F).1) po_none) fun σ H Q q => by
          have q := two_read (f := fun x y st2 => match y with
            | .int i => slV fr st2 x (some i) none
            | _ => .bad) q
          obtain ⟨r, env, st, R, E, q⟩ := q
          refine ⟨r, env, st, R, E, ?_⟩
          cases h1 : evE (g.ctx n) a env st with
          | exc => rw [h1] at q; exact q.elim
          | bad => rw [h1] at q; exact q.elim
          | ok p st1 =>
            rw [h1] at q
            intro v H1 r1 A1 R1 hv
            obtain ⟨r2, env2, st2, R2, E2, q⟩ := q v H1 r1 A1 R1 hv
            refine ⟨r2, env2, st2, R2, E2, ?_⟩
            cases h3 : evE (g.ctx n) lo env2 st2 with
            | exc => rw [h3] at q; exact q.elim
            | bad => rw [h3] at q; exact q.elim
            | ok p2 st3 =>
              rw [h3] at q
              intro v2 H4 r4 A4 R4 hv4
              obtain ⟨r5, st5, p5, q5, R5, hp, hq, q⟩ := q v2 H4 r4 A4 R4 hv4
              cases hq with
              | int i => exact ⟨i, rfl, r5, st5, p5, R5, hp, q⟩
              | _ => exact q.elim
      exact ⟨main, pt_plain _ main fun _ => rfl⟩
    | none, _, _, h => cases h
    | some _, some _, none, h => cases h
    | some _, none, some _, h => cases h
    | some _, some _, some _, h => cases h
  | .slT fr a hi, X, N, sc, so, S, e, h, F => by
    cases e <;> first | (cases h; done) | skip
    rename_i ea es pos
    cases es <;> first | (cases h; done) | skip
    rename_i l u t p2
    match l, u, t, h with
    | none, some eh, none, h =>
      have h : (chkE g N sc a ea && chkE g N sc hi eh) = true := h
      simp only [Bool.and_eq_true] at h
      have main : PE X (.Subscript ea (.Slice none (some eh) none p2) pos) (tI X.K F (evE (g.ctx n) (.slT fr a hi))) :=
        PE.imp (pe_slice (sl_all (F := F) fr) (snd_E a S h.1 F).1 po_none (po_some (snd_E hi S h.2 F).1)) fun σ H Q q => by
          have q := two_read (f := fun x y st2 => match y with
            | .int i => slV fr st2 x none (some i)
            | _ => .bad) q
          obtain ⟨r, env, st, R, E, q⟩ := q
          refine ⟨r, env, st, R, E, ?_⟩
          cases h1 : evE (g.ctx n) a env st with
          | exc => rw [h1] at q; exact q.elim
          | bad => rw [h1] at q; exact q.elim
          | ok p st1 =>
            rw [h1] at q
            intro v H1 r1 A1 R1 hv
            obtain ⟨r2, env2, st2, R2, E2, q⟩ := q v H1 r1 A1 R1 hv
            refine ⟨r2, env2, st2, R2, E2, ?_⟩
            cases h3 : evE (g.ctx n) hi env2 st2 with
            | exc => rw [h3] at q; exact q.elim
            | bad => rw [h3] at q; exact q.elim
            | ok p2 st3 =>
              rw [h3] at q
              intro v2 H4 r4 A4 R4 hv4
              obtain ⟨r5, st5, p5, q5, R5, hp, hq, q⟩ := q v2 H4 r4 A4 R4 hv4
              cases hq with
              | int i => exact ⟨i, rfl, r5, st5, p5, R5, hp, q⟩
              | _ => exact q.elim
      exact ⟨main, pt_plain _ main fun _ => rfl⟩
    | some _, _, _, h => cases h
    | none, none, _, h => cases h
    | none, some _, some _, h => cases h
  | .call f es, X, N, sc, so, S, e, h, F => by
    cases e <;> first | (cases h; done) | skip
    rename_i fe ees kws pos
    cases fe <;> first | (cases h; done) | skip
    rename_i x p
    match ees, kws, h with
    | a :: ees, [], h =>
      have h : (decide (x = f) && glb sc x && (g.tb.lookup f).isSome && chkEs g N sc es (a :: ees)) = true := h
      simp only [Bool.and_eq_true, decide_eq_true_eq] at h
      have q := snd_Es es S h.2
      have main : PE X (.Call (.Name x p) (a :: ees) [] pos) (tI X.K F (evE (g.ctx n) (.call f es))) := sub_call S f h.1.1.1 h.1.1.2 h.1.2 q.ok q.len (q.pa F)
      exact ⟨main, pt_plain _ main fun _ => rfl⟩
    | [], _, h => cases h
    | _ :: _, _ :: _, h => cases h
  | .callk f es ks perm, X, N, sc, so, S, e, h, F => by
    cases e <;> first | (cases h; done) | skip
    rename_i fe ees kws pos
    cases fe <;> first | (cases h; done) | skip
    rename_i x p
    have h : (decide (x = f) && glb sc x && (g.tb.lookup f).isSome && kws.all (fun k => k.arg.isSome) && !kws.isEmpty && decide ((f, kwNames kws, ees.length, perm) ∈ g.kcs) && chkEs g N sc es ees && chkEs g N sc ks (kws.map (·.value))) = true := h
    simp only [Bool.and_eq_true, decide_eq_true_eq] at h
    obtain ⟨⟨⟨⟨⟨⟨⟨hx, hg⟩, ht⟩, hkw⟩, hne⟩, hmem⟩, h1⟩, h2⟩ := h
    have q1 := snd_Es es S h1
    have q2 := snd_Es ks S h2
    subst hx
    obtain ⟨fn, hf⟩ := Option.isSome_iff_exists.mp ht
    obtain ⟨ad, fd, hm, hk, G, _, hb⟩ := S.link.fn x fn hf
    obtain ⟨hgl, hd⟩ := S.gl hg
    obtain ⟨w1, w2, w3⟩ := kw_facts kws hkw pos X.env
    have hbk := hb _ _ _ hmem
    have hkl : (kwNames kws).length = ks.length := by rw [kwNames_len kws hkw, q2.len, List.length_map]
    have main : PE X (.Call (.Name x p) ees kws pos) (tI X.K F (evE (g.ctx n) (.callk x es ks perm))) := by
      match ees, q1, hbk with
      | [], q1, hbk =>
        refine PE.imp (pe_cGk0 (tk := tIA X.K F (evEs (g.ctx n) ks)) (g := fun us ws => perm.map fun i => (us ++ ws).getD i .none) (gV := fun vs zs => perm.map fun i => (vs ++ zs).getD i .non) G S.cal hgl hm hk (fun s us ws _ l2 l3 => hbk s us ws l3 l2) (fun r1 r2 => vals_perm (r1.append r2) perm)
          (q2.pk kws rfl F) hd w1 w2 (by show (false || _) = false; rw [w3]; rfl)) fun σ H Q q => ?_
        have q := kw_read (a := 0) (b := (kwNames kws).length) (fun env st ps st1 e => by rw [evEs_len _ es env st ps st1 e]; exact q1.len) (fun env st ps st1 e => by rw [evEs_len _ ks env st ps st1 e]; exact hkl.symm) q
        obtain ⟨r, env, st, R, E, q⟩ := q
        cases es with
        | nil =>
          obtain ⟨_, q⟩ := q [] H r .refl R .nil
          exact q
        | cons a b => have := q1.len; simp [Exs.length] at this
      | a :: ees, q1, hbk =>
        have hs2 := List.all_cons ▸ q1.ok
        simp only [Bool.and_eq_true] at hs2
        refine PE.imp (pe_cGk (tk := tIA X.K F (evEs (g.ctx n) ks)) (t := tIA X.K F (evEs (g.ctx n) es)) (g := fun us ws => perm.map fun i => (us ++ ws).getD i .none) (gV := fun vs zs => perm.map fun i => (vs ++ zs).getD i .non) G S.cal hgl hm hk (fun s us ws _ l2 l3 => hbk s us ws l3 l2) (fun r1 r2 => vals_perm (r1.append r2) perm)
          (q1.pa F) (q2.pk kws rfl F) hd w1 w2 (okS_star hs2.1 _ _) (by rw [w3, okS_any q1.ok]; rfl)) fun σ H Q q => ?_
        exact kw_read (a := (a :: ees).length) (b := (kwNames kws).length) (fun env st ps st1 e => by rw [evEs_len _ es env st ps st1 e]; exact q1.len) (fun env st ps st1 e => by rw [evEs_len _ ks env st ps st1 e]; exact hkl.symm) q
    exact ⟨main, pt_plain _ main fun _ => rfl⟩
  | .bi f fr es, X, N, sc, so, S, e, h, F => by
    cases e <;> first | (cases h; done) | skip
    rename_i fe ees kws pos
    cases fe <;> first | (cases h; done) | skip
    rename_i x p
    match ees, kws, h with
    | a :: ees, [], h =>
      have h : (decide (x = biName f) && glb sc x && decide (x ∈ g.bs) && chkEs g N sc es (a :: ees)) = true := h
      simp only [Bool.and_eq_true, decide_eq_true_eq] at h
      have q := snd_Es es S h.2
      have main : PE X (.Call (.Name x p) (a :: ees) [] pos) (tI X.K F (evE (g.ctx n) (.bi f fr es))) := sub_bi S f fr h.1.1.1 h.1.1.2 h.1.2 q.ok (q.pa F)
      exact ⟨main, pt_plain _ main fun _ => rfl⟩
    | [], _, h => cases h
    | _ :: _, _ :: _, h => cases h
  | .isi a T, X, N, sc, so, S, e, h, F => by
    cases e <;> first | (cases h; done) | skip
    rename_i fe ees kws pos
    cases fe <;> first | (cases h; done) | skip
    rename_i x p
    have hh : ∃ ee t tp, ees = [ee, .Name t tp] ∧ kws = [] := by
      rcases ees with _ | ⟨a1, _ | ⟨b1, _ | ⟨c1, r1⟩⟩⟩ <;> rcases kws with _ | ⟨k1, ks1⟩ <;> first
        | (cases h; done)
        | (cases b1 <;> first | (cases h; done) | exact ⟨_, _, _, rfl, rfl⟩)
    obtain ⟨ee, t, tp, rfl, rfl⟩ := hh
    have h : (decide (x = ("isinstance" : Str)) && glb sc x && decide (x ∈ g.bs) && decide (t = Str.ofString T) && glb sc t && decide (t ∈ g.bs) && decide (T ∈ tyNames) && chkE g N sc a ee) = true := h
    simp only [Bool.and_eq_true, decide_eq_true_eq] at h
    obtain ⟨⟨⟨⟨⟨⟨⟨hx, hg⟩, hb⟩, ht⟩, hgt⟩, hbt⟩, hT⟩, h1⟩ := h
    subst hx
    obtain ⟨hgl, hd⟩ := S.gl hg
    obtain ⟨hgl2, hd2⟩ := S.gl hgt
    have ok1 := chk_okS h1
    have pt : PE X (.Name t tp) (tC (.ty T)) := pe_bltn hgl2 (S.link.bs t hbt) (by rw [ht]; exact boot_ty hT) rfl (by rw [ht]; exact name_ty hT) hd2
    have ha : PA X [ee, .Name t tp] (tCons (tI X.K F (evE (g.ctx n) a)) (tCons (tC (.ty T)) tNil)) := pa_cons (snd_E a S h1 F).1 (pa_cons pt pa_nil) (okS_star ok1 _ _)
    have main : PE X (.Call (.Name "isinstance" p) [ee, .Name t tp] [] pos) (tI X.K F (evE (g.ctx n) (.isi a T))) := PE.imp (pe_callB call_isi hgl (S.link.bs _ hb) boot_isinstance ha (by decide) hd (okS_star ok1 _ _) rfl) fun σ H Q q => by
      have q := tI.step q
      obtain ⟨r, env, st, R, E, q⟩ := q
      refine ⟨r, env, st, R, E, ?_⟩
      cases k1 : evE (g.ctx n) a env st with
      | exc => rw [k1] at q; exact q.elim
      | bad => rw [k1] at q; exact q.elim
      | ok p st1 =>
        rw [k1] at q
        intro v H1 r1 A1 R1 hv
        obtain ⟨r2, env2, st2, p2, R2, E2, hv2, q⟩ := q v H1 r1 A1 R1 hv
        split at q
        · rename_i b e1
          rw [Option.bind_eq_some_iff] at e1
          obtain ⟨U, e2, e3⟩ := e1
          exact ⟨v, .ty T, .type U, .type T, b, rfl, .ty T, ty_of R2 hv2 e2, kit_ty e3, q.here R2 (.bl _)⟩
        · exact q.elim
    exact ⟨main, pt_plain _ main fun _ => rfl⟩
  | .me m i es, X, N, sc, so, S, e, h, F => by
    cases e <;> first | (cases h; done) | skip
    rename_i fe ees kws pos
    cases fe <;> first | (cases h; done) | skip
    rename_i o x apos
    cases o <;> first | (cases h; done) | skip
    rename_i y py
    match kws, h with
    | [], h =>
      have h : (nmOk N sc i y && decide (x = meName m) && (apos.endLine == pos.line) && decide (ees.length ≤ 1) && chkEs g N sc es ees) = true := h
      simp only [Bool.and_eq_true, decide_eq_true_eq] at h
      have q := snd_Es es S h.2
      have main : PE X (.Call (.Attribute (.Name y py) x apos) ees [] pos) (tI X.K F (evE (g.ctx n) (.me m i es))) := sub_me S m i (by rw [h.1.1.1.1]) h.1.1.1.2 h.1.1.2 h.1.2 q.ok (q.pa F) q.len
      exact ⟨main, pt_plain _ main fun _ => rfl⟩
    | _ :: _, h => cases h
  | .lc fr own p it cs el, X, N, sc, so, S, e, h, F => by
    cases e <;> first | (cases h; done) | skip
    rename_i elt gens scope pos
    match gens, h with
    | [⟨tg, iter, ifs, 0⟩], h =>
      have h : (blkC N sc scope (ownL N own) && chkI g N sc it iter && okS iter && (!needsT it || isTgT tg) && decide (∀ i ∈ p.slots, i ∈ own) && chkP N scope p tg && decide (ifs.length ≤ 1) && chkEs g N (relS scope sc) cs ifs && chkE g N (relS scope sc) el elt) = true := h
      simp only [Bool.and_eq_true, decide_eq_true_eq] at h
      obtain ⟨⟨⟨⟨⟨⟨⟨⟨hb, hi⟩, ho⟩, ht⟩, hown⟩, hp⟩, hl⟩, hcs⟩, he⟩ := h
      have own2 : (ownL N own).map (·.2) = own := by simp [ownL, List.map_map, Function.comp_def]
      have main : PE X (.ListComp elt [⟨tg, iter, ifs, 0⟩] scope pos) (tI X.K F (evE (g.ctx n) (.lc fr own p it cs el))) := by
        refine PE.imp (pe_lc (own := ownL N own) (g := gX X.K p) (tt := tTX X.K (evTests (g.ctx n) cs)) (te := tX X.K (evE (g.ctx n) el)) S.cal.calm (by rw [S.eN]; exact S.nd) (snd_I it S hi (fun z => by rw [z] at ht; simpa using ht) F) (blkOk_by (by rw [S.eN, S.eS]; exact hb))
          (fun s H C cl fp => pg_any fun F => (pg_I (S.blk) F p tg hp).1) (fun s H C cl fp => (snd_Es cs (S.blk) hcs).ts hl) (fun s H C cl fp => pe_any fun F => (snd_E el (S.blk) he F).1) (fun x => okS_set ho _ _)) fun σ H Q q => ?_
        rw [own2]
        exact lc_read hown q
      exact ⟨main, pt_plain _ main fun _ => rfl⟩
    | [], h => cases h
    | ⟨_, _, _, 0⟩ :: ⟨_, _, _, 0⟩ :: _, h => cases h
    | ⟨_, _, _, 0⟩ :: ⟨_, _, _, (_ + 1 : Nat)⟩ :: _, h => cases h
    | ⟨_, _, _, 0⟩ :: ⟨_, _, _, Int.negSucc _⟩ :: _, h => cases h
    | ⟨_, _, _, (_ + 1 : Nat)⟩ :: _, h => cases h
    | ⟨_, _, _, Int.negSucc _⟩ :: _, h => cases h
  | .lc2 fr own p it cs vs2 p2 it2 cs2 el, X, N, sc, so, S, e, h, F => by
    cases e <;> first | (cases h; done) | skip
    rename_i elt gens scope pos
    match gens, h with
    | [⟨tg, iter, ifs, 0⟩, ⟨tg2, iter2, ifs2, 0⟩], h =>
      have h : (blkC N sc scope (ownL N own) && chkI g N sc it iter && okS iter && (!needsT it || isTgT tg) && decide (∀ i ∈ p.slots, i ∈ own) && chkP N scope p tg && decide (ifs.length ≤ 1) && chkEs g N (relS scope sc) cs ifs &&
        decide (∀ i ∈ vs2, i ∈ own) && chkI g N (relS scope sc) it2 iter2 && okS iter2 && (!needsT it2 || isTgT tg2) && decide (∀ i ∈ p2.slots, i ∈ vs2) && chkP N scope p2 tg2 && decide (ifs2.length ≤ 1) && chkEs g N (relS scope sc) cs2 ifs2 && chkE g N (relS scope sc) el elt) = true := h
      simp only [Bool.and_eq_true, decide_eq_true_eq] at h
      obtain ⟨⟨⟨⟨⟨⟨⟨⟨⟨⟨⟨⟨⟨⟨⟨⟨hb, hi⟩, ho⟩, ht⟩, hown⟩, hp⟩, hl⟩, hcs⟩, hv⟩, hi2⟩, ho2⟩, ht2⟩, hown2⟩, hp2⟩, hl2⟩, hcs2⟩, he⟩ := h
      have own2 : (ownL N own).map (·.2) = own := by simp [ownL, List.map_map, Function.comp_def]
      have main : PE X (.ListComp elt [⟨tg, iter, ifs, 0⟩, ⟨tg2, iter2, ifs2, 0⟩] scope pos) (tI X.K F (evE (g.ctx n) (.lc2 fr own p it cs vs2 p2 it2 cs2 el))) := by
        refine PE.imp (pe_lc2 (own := ownL N own) (g := gX X.K p) (tt := tTX X.K (evTests (g.ctx n) cs)) (g1 := gX X.K p2) (tt1 := tTX X.K (evTests (g.ctx n) cs2)) (wi1 := iX X.K (evIx (g.ctx n) it2)) (te := tX X.K (evE (g.ctx n) el)) S.cal.calm (by rw [S.eN]; exact S.nd) (snd_I it S hi (fun z => by rw [z] at ht; simpa using ht) F) (blkOk_by (by rw [S.eN, S.eS]; exact hb)) (by rw [own2]; exact hv)
          (fun s H C cl fp => pg_any fun F => (pg_I (S.blk) F p tg hp).1) (fun s H C cl fp => (snd_Es cs (S.blk) hcs).ts hl) (fun s H C cl fp => pi_any fun F => snd_I it2 (S.blk) hi2 (fun z => by rw [z] at ht2; simpa using ht2) F)
          (fun s H C cl fp => pg_any fun F => (pg_I (S.blk) F p2 tg2 hp2).1) (fun s H C cl fp => (snd_Es cs2 (S.blk) hcs2).ts hl2) (fun s H C cl fp => pe_any fun F => (snd_E el (S.blk) he F).1) (fun x => okS_set ho _ _) (fun env x => okS_set ho2 _ _)) fun σ H Q q => ?_
        rw [own2]
        exact lc2_read hown hown2 q
      exact ⟨main, pt_plain _ main fun _ => rfl⟩
    | [], h => cases h
    | [⟨_, _, _, 0⟩], h => cases h
    | ⟨_, _, _, 0⟩ :: ⟨_, _, _, 0⟩ :: _ :: _, h => cases h
    | ⟨_, _, _, 0⟩ :: ⟨_, _, _, (_ + 1 : Nat)⟩ :: _, h => cases h
    | ⟨_, _, _, 0⟩ :: ⟨_, _, _, Int.negSucc _⟩ :: _, h => cases h
    | ⟨_, _, _, (_ + 1 : Nat)⟩ :: _, h => cases h
    | ⟨_, _, _, Int.negSucc _⟩ :: _, h => cases h
theorem snd_Es : ∀ (es : Exs) {X : Cx} {N : List Str} {sc so : Scope} (S : Std X g n N sc so) {ees : List Expr}, chkEs g N sc es ees = true → SndEs X g n es ees
  | .nil, X, N, sc, so, S, ees, h => by
    cases ees with
    | cons a b => cases h
    | nil =>
      refine ⟨rfl, rfl, fun F => PA.imp pa_nil fun σ H Q q => nil_read q, fun kws e F => ?_, fun z => (z rfl).elim, fun z => (z rfl).elim, fun _ => pts_any fun F => PTs.imp pts_nil fun σ H Q q => ?_⟩
      · have : kws = [] := by simpa using e
        subst this
        exact PK.imp pk_nil fun σ H Q q => nil_read q
      · obtain ⟨r, env, st, R, E, q⟩ := q
        exact q H r .refl R
  | .cons ex es, X, N, sc, so, S, ees, h => by
    cases ees with
    | nil => cases h
    | cons a as =>
      have h : (okS a && chkE g N sc ex a && chkEs g N sc es as) = true := h
      simp only [Bool.and_eq_true] at h
      have q1 := snd_E ex S h.1.2
      have q2 := snd_Es es S h.2
      refine ⟨by rw [List.all_cons, h.1.1, q2.ok]; rfl, congrArg (· + 1) q2.len, fun F => PA.imp (pa_cons (q1 F).1 (q2.pa F) (okS_star h.1.1 _ _)) fun σ H Q q => cons_read q, fun kws e F => ?_, fun _ F pos => ?_, fun _ F pos => ?_, fun hl => pts_any fun F => ?_⟩
      · cases kws with
        | nil => cases e
        | cons k ks =>
          obtain ⟨nm, v, kp⟩ := k
          simp only [List.map_cons, List.cons.injEq] at e
          obtain ⟨rfl, e⟩ := e
          exact PK.imp (pk_cons (q1 F).1 (q2.pk ks e F)) fun σ H Q q => cons_read q
      · match es, as, q2 with
        | .nil, [], q2 =>
          exact ⟨PE.imp (pe_one (q1 F).1) fun σ H Q q => q, PW.imp (pw_and1 (q1 F).2) fun σ H Q q => q⟩
        | .cons e2 es2, b :: bs, q2 =>
          obtain ⟨p1, p2⟩ := q2.and (by simp) F pos
          exact ⟨PE.imp (pe_andT (q1 F).1 p1) fun σ H Q q => and_read q, PW.imp (pw_and (q1 F).2 p2) fun σ H Q q => by
            have q := tIT.step2 (f := fun k env st1 => if k = true then (evAnd (g.ctx n) (.cons e2 es2) env st1).bind fun x st1 => Out.of (truthy st1 x) st1 else .ok false st1) (tIT.eq q fun env st => evAnd_test _ ex e2 es2 env st)
            obtain ⟨r, env, st, R, E, q⟩ := q
            refine ⟨r, env, st, R, E, ?_⟩
            cases k1 : evC (g.ctx n) ex env st with
            | exc => rw [k1] at q; exact q.elim
            | bad => rw [k1] at q; exact q.elim
            | ok k st1 =>
              rw [k1] at q
              intro H1 r1 A1 R1
              have q := q H1 r1 A1 R1
              cases k with
              | true => exact q
              | false =>
                obtain ⟨r2, env2, st2, R2, E2, q⟩ := q
                exact q H1 r2 .refl R2⟩
        | .nil, _ :: _, q2 => have := q2.len; simp [Exs.length] at this
        | .cons _ _, [], q2 => have := q2.len; simp [Exs.length] at this
      · match es, as, q2 with
        | .nil, [], q2 =>
          exact ⟨PE.imp (pe_one (q1 F).1) fun σ H Q q => q, PW.imp (pw_or1 (q1 F).2) fun σ H Q q => q⟩
        | .cons e2 es2, b :: bs, q2 =>
          obtain ⟨p1, p2⟩ := q2.or (by simp) F pos
          exact ⟨PE.imp (pe_orT (q1 F).1 p1) fun σ H Q q => or_read q, PW.imp (pw_or (q1 F).2 p2) fun σ H Q q => by
            have q := tIT.step2 (f := fun k env st1 => if k = true then .ok true st1 else (evOr (g.ctx n) (.cons e2 es2) env st1).bind fun x st1 => Out.of (truthy st1 x) st1) (tIT.eq q fun env st => evOr_test _ ex e2 es2 env st)
            obtain ⟨r, env, st, R, E, q⟩ := q
            refine ⟨r, env, st, R, E, ?_⟩
            cases k1 : evC (g.ctx n) ex env st with
            | exc => rw [k1] at q; exact q.elim
            | bad => rw [k1] at q; exact q.elim
            | ok k st1 =>
              rw [k1] at q
              intro H1 r1 A1 R1
              have q := q H1 r1 A1 R1
              cases k with
              | false => exact q
              | true =>
                obtain ⟨r2, env2, st2, R2, E2, q⟩ := q
                exact q H1 r2 .refl R2⟩
        | .nil, _ :: _, q2 => have := q2.len; simp [Exs.length] at this
        | .cons _ _, [], q2 => have := q2.len; simp [Exs.length] at this
      · cases as with
        | cons b bs => simp at hl
        | nil => exact PTs.imp (pts_one (q1 F).2) fun σ H Q q => q
theorem snd_I : ∀ (it : Ix) {X : Cx} {N : List Str} {sc so : Scope} (S : Std X g n N sc so) {iter : Expr}, chkI g N sc it iter = true → ∀ {tg : Expr}, (needsT it = true → isTgT tg = true) → ∀ F, PI X tg iter (iI X.K F (evIx (g.ctx n) it))
  | .val ex, X, N, sc, so, S, iter, h, tg, hT, F => by
    have h : (okS iter && chkE g N sc ex iter) = true := by
      unfold chkI at h
      exact h
    simp only [Bool.and_eq_true] at h
    have q1 := (snd_E ex S h.2 F).1
    have both : PI X tg iter (fun σ H R => iList X.K (tI X.K F (evE (g.ctx n) ex)) σ H R ∨ iTup X.K (tI X.K F (evE (g.ctx n) ex)) σ H R) :=
      ⟨fun pins s σ H R I q => q.elim (fun q => (pi_list q1).run pins s σ H R I q) fun q => (pi_tup q1).run pins s σ H R I q⟩
    refine PI.imp both fun σ H R q => ?_
    obtain ⟨r, env, st, Rr, E, q⟩ := q
    simp only [evIx] at q
    cases k1 : evE (g.ctx n) ex env st with
    | exc => rw [k1] at q; exact q.elim
    | bad => rw [k1] at q; exact q.elim
    | ok p st1 =>
      rw [k1] at q
      simp only [bind_ok] at q
      cases k2 : seqA st1 p with
      | none => rw [k2] at q; exact q.elim
      | some xs =>
        rw [k2] at q
        cases p with
        | tup ds =>
          cases k2
          refine .inr ⟨r, env, st, Rr, E, ?_⟩
          rw [k1]
          intro v H1 r1 A1 R1 hv
          cases hv with
          | @tup a vs _ hs hq => exact ⟨a, rfl, ⟨vs, hs⟩, q H1 r1 _ A1 R1 (JOk.tup R1 hs hq)⟩
        | lsv ds =>
          cases k2
          refine .inl ⟨r, env, st, Rr, E, ?_⟩
          rw [k1]
          intro v H1 r1 A1 R1 hv
          cases hv with
          | @lsv a vs _ hs hq => exact ⟨a, rfl, ⟨vs, hs.seq⟩, q H1 r1 _ A1 R1 (JOk.lsv R1 hs hq)⟩
        | loc i =>
          refine .inl ⟨r, env, st, Rr, E, ?_⟩
          rw [k1]
          intro v H1 r1 A1 R1 hv
          cases hv with
          | @loc a _ hl =>
            obtain ⟨ys, vs, c1, c2, _⟩ := R1.cell hl
            exact ⟨a, rfl, ⟨vs, .of c2⟩, q H1 r1 _ A1 R1 (JOk.loc hl)⟩
        | _ => cases k2
  | .rng1 a, X, N, sc, so, S, iter, h, tg, hT, F => by
    cases iter <;> first | (cases h; done) | skip
    rename_i fe ees kws pos
    cases fe <;> first | (cases h; done) | skip
    rename_i x p
    match ees, kws, h with
    | [ea], [], h =>
      have h : (decide (x = ("range" : Str)) && glb sc x && decide (x ∈ g.bs) && okS ea && chkE g N sc a ea) = true := h
      simp only [Bool.and_eq_true, decide_eq_true_eq] at h
      obtain ⟨⟨⟨⟨rfl, hg⟩, hb⟩, ho⟩, h1⟩ := h
      obtain ⟨hgl, hd⟩ := S.gl hg
      have ha : PA X [ea] (tCons (tI X.K F (evE (g.ctx n) a)) tNil) := pa_cons (snd_E a S h1 F).1 pa_nil (okS_star ho _ _)
      refine PI.imp (pi_range1 hgl (S.link.bs _ hb) ha (okS_star ho _ _)) fun σ H R q => ?_
      obtain ⟨r, env, st, Rr, E, q⟩ := q
      refine ⟨r, env, st, Rr, E, ?_⟩
      simp only [evIx] at q
      cases k1 : evE (g.ctx n) a env st with
      | exc => rw [k1] at q; exact q.elim
      | bad => rw [k1] at q; exact q.elim
      | ok p st1 =>
        rw [k1] at q
        simp only [bind_ok] at q
        intro v H1 r1 A1 R1 hv
        cases hv with
        | int j =>
          unfold rngV1 at q
          dsimp only at q
          split at q
          · rename_i hz
            have hz : -(2 ^ 62) ≤ j ∧ j < 2 ^ 62 := hz
            exact ⟨j, rfl, hz.1, hz.2, q H1 r1 _ A1 R1 (JOk.rng 0 j.toNat)⟩
          · exact q.elim
        | _ => exact q.elim
    | [], _, h => cases h
    | [_], _ :: _, h => cases h
    | _ :: _ :: _, [], h => cases h
    | _ :: _ :: _, _ :: _, h => cases h
  | .rng2 a b, X, N, sc, so, S, iter, h, tg, hT, F => by
    cases iter <;> first | (cases h; done) | skip
    rename_i fe ees kws pos
    cases fe <;> first | (cases h; done) | skip
    rename_i x p
    match ees, kws, h with
    | [ea, eb], [], h =>
      have h : (decide (x = ("range" : Str)) && glb sc x && decide (x ∈ g.bs) && okS ea && okS eb && chkE g N sc a ea && chkE g N sc b eb) = true := h
      simp only [Bool.and_eq_true, decide_eq_true_eq] at h
      obtain ⟨⟨⟨⟨⟨⟨rfl, hg⟩, hb⟩, ho⟩, ho2⟩, h1⟩, h2⟩ := h
      obtain ⟨hgl, hd⟩ := S.gl hg
      have ha : PA X [ea, eb] (tCons (tI X.K F (evE (g.ctx n) a)) (tCons (tI X.K F (evE (g.ctx n) b)) tNil)) := pa_cons (snd_E a S h1 F).1 (pa_cons (snd_E b S h2 F).1 pa_nil (okS_star ho2 _ _)) (okS_star ho _ _)
      refine PI.imp (pi_range2 hgl (S.link.bs _ hb) ha (by rw [okS_star ho, okS_star ho2]; rfl) (by rw [okS_star ho2]; rfl)) fun σ H R q => ?_
      obtain ⟨r, env, st, Rr, E, q⟩ := q
      refine ⟨r, env, st, Rr, E, ?_⟩
      simp only [evIx] at q
      cases k1 : evE (g.ctx n) a env st with
      | exc => rw [k1] at q; exact q.elim
      | bad => rw [k1] at q; exact q.elim
      | ok p st1 =>
        rw [k1] at q
        simp only [bind_ok] at q
        intro v H1 r1 A1 R1 hv
        refine ⟨r1, env, st1, R1, E.aft Rr A1, ?_⟩
        cases k2 : evE (g.ctx n) b env st1 with
        | exc => rw [k2] at q; exact q.elim
        | bad => rw [k2] at q; exact q.elim
        | ok p2 st2 =>
          rw [k2] at q
          simp only [bind_ok] at q
          intro v2 H2 r2 A2 R2 hv2
          cases hv with
          | int i =>
            cases hv2 with
            | int j =>
              unfold rngV2 at q
              dsimp only at q
              split at q
              · rename_i hz
                obtain ⟨y1, y2⟩ := hz
                have y1 : -(2 ^ 62) ≤ i ∧ i < 2 ^ 62 := y1
                have y2 : -(2 ^ 62) ≤ j ∧ j < 2 ^ 62 := y2
                exact ⟨i, j, rfl, ⟨y1.1, y1.2, y2.1, y2.2⟩, q H2 r2 _ (A1.trans A2) R2 (JOk.rng i (j - i).toNat)⟩
              · exact q.elim
            | _ => exact q.elim
          | _ => cases hv2 <;> exact q.elim
    | [], _, h => cases h
    | [_], [], h => cases h
    | [_], _ :: _, h => cases h
    | [_, _], _ :: _, h => cases h
    | _ :: _ :: _ :: _, [], h => cases h
    | _ :: _ :: _ :: _, _ :: _, h => cases h
  | .rng3 a b c, X, N, sc, so, S, iter, h, tg, hT, F => by
    cases iter <;> first | (cases h; done) | skip
    rename_i fe ees kws pos
    cases fe <;> first | (cases h; done) | skip
    rename_i x p
    have hh : ∃ ea eb k q1 q2 q3, ees = [ea, eb, .UnaryOp .USub (.Constant (.int k) q1 q2) q3] ∧ kws = [] := by
      rcases ees with _ | ⟨a1, _ | ⟨b1, _ | ⟨c1, _ | ⟨d1, r1⟩⟩⟩⟩ <;> rcases kws with _ | ⟨k1, ks1⟩ <;> first
        | (cases h; done)
        | (cases c1 <;> first
            | (cases h; done)
            | (rename_i o1 z1 p1
               cases o1 <;> first
                | (cases h; done)
                | (cases z1 <;> first
                    | (cases h; done)
                    | (rename_i c2 _ _
                       cases c2 <;> first
                        | (cases h; done)
                        | exact ⟨_, _, _, _, _, _, rfl, rfl⟩))))
    obtain ⟨ea, eb, k, q1, q2, q3, rfl, rfl⟩ := hh
    have h : (decide (x = ("range" : Str)) && glb sc x && decide (x ∈ g.bs) && okS ea && okS eb && decide (c = -k) && chkE g N sc a ea && chkE g N sc b eb) = true := h
    simp only [Bool.and_eq_true, decide_eq_true_eq] at h
    obtain ⟨⟨⟨⟨⟨⟨⟨rfl, hg⟩, hb⟩, ho⟩, ho2⟩, hc⟩, h1⟩, h2⟩ := h
    obtain ⟨hgl, hd⟩ := S.gl hg
    have ha : PA X [ea, eb, .UnaryOp .USub (.Constant (.int k) q1 q2) q3] (tCons (tI X.K F (evE (g.ctx n) a)) (tCons (tI X.K F (evE (g.ctx n) b)) (tCons (tUn (rU fun i => .int (-i)) (tC (.int k))) tNil))) :=
      pa_cons (snd_E a S h1 F).1 (pa_cons (snd_E b S h2 F).1 (pa_cons (pe_un un_neg pe_int) pa_nil) (okS_star ho2 _ _)) (okS_star ho _ _)
    refine PI.imp (pi_range3 hgl (S.link.bs _ hb) ha (by rw [okS_star ho]) (by rw [okS_star ho2]; rfl)) fun σ H R q => ?_
    obtain ⟨r, env, st, Rr, E, q⟩ := q
    refine ⟨r, env, st, Rr, E, ?_⟩
    simp only [evIx] at q
    cases k1 : evE (g.ctx n) a env st with
    | exc => rw [k1] at q; exact q.elim
    | bad => rw [k1] at q; exact q.elim
    | ok p st1 =>
      rw [k1] at q
      simp only [bind_ok] at q
      intro v H1 r1 A1 R1 hv
      refine ⟨r1, env, st1, R1, E.aft Rr A1, ?_⟩
      cases k2 : evE (g.ctx n) b env st1 with
      | exc => rw [k2] at q; exact q.elim
      | bad => rw [k2] at q; exact q.elim
      | ok p2 st2 =>
        rw [k2] at q
        simp only [bind_ok] at q
        intro v2 H2 r2 A2 R2 hv2
        refine ⟨k, rfl, ?_⟩
        cases hv with
        | int i =>
          cases hv2 with
          | int j =>
            unfold rngV3 at q
            dsimp only at q
            split at q
            · rename_i hz
              obtain ⟨z0, y1, y2⟩ := hz
              have y1 : -(2 ^ 60) ≤ i ∧ i < 2 ^ 60 := y1
              have y2 : -(2 ^ 60) ≤ j ∧ j < 2 ^ 60 := y2
              obtain ⟨z1, z2⟩ := y1
              obtain ⟨z3, z4⟩ := y2
              have hk : -k = -1 := by rw [← hc]; exact z0
              rw [z0] at q
              refine ⟨i, j, -1, (i - j).toNat, by show [V.int i, V.int j, V.int (-k)] = _; rw [hk], RgC.neg (by omega) (by omega) (by omega) (by omega), q H2 r2 _ (A1.trans A2) R2 (JOk.rngC i (-1) (i - j).toNat)⟩
            · exact q.elim
          | _ => exact q.elim
        | _ => cases hv2 <;> exact q.elim
  | .zip a b, X, N, sc, so, S, iter, h, tg, hT, F => by
    cases iter <;> first | (cases h; done) | skip
    rename_i fe ees kws pos
    cases fe <;> first | (cases h; done) | skip
    rename_i x p
    have hT := hT rfl
    cases tg <;> first | (cases hT; done) | skip
    match ees, kws, h with
    | [ea, eb], [], h =>
      have h : (decide (x = ("zip" : Str)) && glb sc x && decide (x ∈ g.bs) && okS ea && okS eb && chkE g N sc a ea && chkE g N sc b eb) = true := h
      simp only [Bool.and_eq_true, decide_eq_true_eq] at h
      obtain ⟨⟨⟨⟨⟨⟨rfl, hg⟩, hb⟩, ho⟩, ho2⟩, h1⟩, h2⟩ := h
      obtain ⟨hgl, hd⟩ := S.gl hg
      have ha : PA X [ea, eb] (tCons (tI X.K F (evE (g.ctx n) a)) (tCons (tI X.K F (evE (g.ctx n) b)) tNil)) := pa_cons (snd_E a S h1 F).1 (pa_cons (snd_E b S h2 F).1 pa_nil (okS_star ho2 _ _)) (okS_star ho _ _)
      refine PI.imp (RZ.pi_zipA hgl (S.link.bs _ hb) ha (by rw [okS_star ho]) (by rw [okS_star ho2]; rfl)) fun σ H R q => ?_
      obtain ⟨r, env, st, Rr, E, q⟩ := q
      refine ⟨r, env, st, Rr, E, ?_⟩
      simp only [evIx] at q
      cases k1 : evE (g.ctx n) a env st with
      | exc => rw [k1] at q; exact q.elim
      | bad => rw [k1] at q; exact q.elim
      | ok p st1 =>
        rw [k1] at q
        simp only [bind_ok] at q
        intro v H1 r1 A1 R1 hv
        refine ⟨r1, env, st1, R1, E.aft Rr A1, ?_⟩
        cases k2 : evE (g.ctx n) b env st1 with
        | exc => rw [k2] at q; exact q.elim
        | bad => rw [k2] at q; exact q.elim
        | ok p2 st2 =>
          rw [k2] at q
          simp only [bind_ok] at q
          intro v2 H2 r2 A2 R2 hv2
          have q := q.aft (A1.trans A2)
          have hv := hv.aft R1 A2
          have gen : ∀ {xs ys : List PV}, seqL st2 p = some xs → seqL st2 p2 = some ys → PostI X.K F r2 H2 R (.ok ((xs.zip ys).map fun p => .tup [p.1, p.2], watchOf p xs ++ watchOf p2 ys) st2) →
              ∃ a b xs ys, [v, v2] = [.ref a, .ref b] ∧ ((SqL X.K H2 a xs ∧ SqL X.K H2 b ys ∧ R (Itz X.K a b) H2) ∨ (SqT X.K H2 a xs ∧ SqT X.K H2 b ys ∧ R (RZ.ItzT X.K a b) H2)) := by
            intro xs ys e1 e2 q
            obtain ⟨a1, b1, rfl, rfl, j⟩ := JOk.zipL R2 hv e1 hv2 e2
            obtain ⟨a2, us, z1, s1, _⟩ := hv.seqL R2 e1
            obtain ⟨b2, ws, z2, s2, _⟩ := hv2.seqL R2 e2
            cases z1; cases z2
            exact ⟨a1, b1, us, ws, rfl, .inl ⟨s1, s2, q H2 r2 _ .refl R2 j⟩⟩
          have lists : zipV st2 p p2 = zipL st2 p p2 ∨ ∃ xs ys, p = .tup xs ∧ p2 = .tup ys := by
            cases p <;> cases p2 <;> first | exact .inl rfl | exact .inr ⟨_, _, rfl, rfl⟩
          rcases lists with e | ⟨xs, ys, rfl, rfl⟩
          · rw [e] at q
            unfold zipL at q
            split at q
            · exact gen (by assumption) (by assumption) q
            · exact q.elim
          · cases hv with
            | @tup a1 us _ hs hq =>
              cases hv2 with
              | @tup b1 ws _ hs2 hq2 => exact ⟨a1, b1, us, ws, rfl, .inr ⟨hs, hs2, q H2 r2 _ .refl R2 (JOk.zipT R2 hs hq hs2 hq2)⟩⟩
    | [], _, h => cases h
    | [_], [], h => cases h
    | [_], _ :: _, h => cases h
    | [_, _], _ :: _, h => cases h
    | _ :: _ :: _ :: _, [], h => cases h
    | _ :: _ :: _ :: _, _ :: _, h => cases h
  | .enm a, X, N, sc, so, S, iter, h, tg, hT, F => by
    cases iter <;> first | (cases h; done) | skip
    rename_i fe ees kws pos
    cases fe <;> first | (cases h; done) | skip
    rename_i x p
    have hT := hT rfl
    cases tg <;> first | (cases hT; done) | skip
    match ees, kws, h with
    | [ea], [], h =>
      have h : (decide (x = ("enumerate" : Str)) && glb sc x && decide (x ∈ g.bs) && okS ea && chkE g N sc a ea) = true := h
      simp only [Bool.and_eq_true, decide_eq_true_eq] at h
      obtain ⟨⟨⟨⟨rfl, hg⟩, hb⟩, ho⟩, h1⟩ := h
      obtain ⟨hgl, hd⟩ := S.gl hg
      have ha : PA X [ea] (tCons (tI X.K F (evE (g.ctx n) a)) tNil) := pa_cons (snd_E a S h1 F).1 pa_nil (okS_star ho _ _)
      refine PI.imp (pi_enum hgl (S.link.bs _ hb) ha (okS_star ho _ _)) fun σ H R q => ?_
      obtain ⟨r, env, st, Rr, E, q⟩ := q
      refine ⟨r, env, st, Rr, E, ?_⟩
      simp only [evIx] at q
      cases k1 : evE (g.ctx n) a env st with
      | exc => rw [k1] at q; exact q.elim
      | bad => rw [k1] at q; exact q.elim
      | ok p st1 =>
        rw [k1] at q
        simp only [bind_ok] at q
        intro v H1 r1 A1 R1 hv
        split at q
        · rename_i xs e1
          obtain ⟨a1, rfl, j⟩ := JOk.enm R1 hv e1
          obtain ⟨a2, us, z1, s1, _⟩ := hv.seqL R1 e1
          cases z1
          exact ⟨a1, us, rfl, s1, q H1 r1 _ A1 R1 j⟩
        · exact q.elim
    | [], _, h => cases h
    | [_], _ :: _, h => cases h
    | _ :: _ :: _, [], h => cases h
    | _ :: _ :: _, _ :: _, h => cases h
end
end
end L2.Iv

/-! IvJ: statements do what the language says. Own work. -/
namespace L2.Iv
open PySem PySem.Spec PyProof.Rows

/-! ### the model's exchange of stores -/
def swNames (sc : Scope) (ts : List Expr) : List Str := ts.filterMap fun
  | .Name id pos => if sc.names.lookup id == some .local && pos.line == (ts.head?.map (·.pos.line)).getD 0 then some id else none
  | _ => none
def isStar : Expr → Bool
  | .Starred .. => true
  | _ => false
/-- 0: nothing is exchanged; 1: the names are stored from the right; 2: the model says nothing -/
def swB (sc : Scope) (ts vs : List Expr) : Nat :=
  if !(ts.length == 2 || ts.length == 3) || vs.length != ts.length then 0
  else if vs.any isStar then 0
  else if (swNames sc ts).length != ts.length || (swNames sc ts).eraseDups.length != (swNames sc ts).length then 0
  else if vs.all (foldedForSure 8) then 0
  else if vs.all (constantsAlone 8) then 2
  else 1
theorem sw_form (env : PySem.Env) (ts vs : List Expr) (k k2 : Nat) (p p2 : Pos) : swappedStores [.Tuple ts k p] (.Tuple vs k2 p2) env =
    (if (!(ts.length == 2 || ts.length == 3) || vs.length != ts.length || env.blockKind != .function) = true then pure none
     else if (vs.any isStar) = true then pure none
     else if ((swNames env.scope ts).length != ts.length || (swNames env.scope ts).eraseDups.length != (swNames env.scope ts).length) = true then pure none
     else if vs.all (foldedForSure 8) = true then pure none
     else if vs.all (constantsAlone 8) = true then (do unsupported "assign.tuple-of-constant-expressions:order-of-the-stores"; pure (some (swNames env.scope ts)))
     else pure (some (swNames env.scope ts))) := by
  unfold swappedStores
  rfl
theorem sw_gen {sc : Scope} {env : PySem.Env} (hs : env.scope = sc) (hk : sc.kind = .function) (ts vs : List Expr) (k k2 : Nat) (p p2 : Pos) :
    (swB sc ts vs = 0 → swappedStores [.Tuple ts k p] (.Tuple vs k2 p2) env = pure none) ∧ (swB sc ts vs = 1 → swappedStores [.Tuple ts k p] (.Tuple vs k2 p2) env = pure (some (swNames sc ts))) := by
  have hb : (env.blockKind != .function) = false := by unfold Env.blockKind; rw [hs, hk]; rfl
  rw [sw_form, hb, Bool.or_false, hs]
  unfold swB
  by_cases c1 : (!(ts.length == 2 || ts.length == 3) || vs.length != ts.length) = true
  · rw [if_pos c1, if_pos c1]
    exact ⟨fun _ => rfl, fun z => by cases z⟩
  rw [if_neg c1, if_neg c1]
  by_cases c2 : (vs.any isStar) = true
  · rw [if_pos c2, if_pos c2]
    exact ⟨fun _ => rfl, fun z => by cases z⟩
  rw [if_neg c2, if_neg c2]
  by_cases c3 : ((swNames sc ts).length != ts.length || (swNames sc ts).eraseDups.length != (swNames sc ts).length) = true
  · rw [if_pos c3, if_pos c3]
    exact ⟨fun _ => rfl, fun z => by cases z⟩
  rw [if_neg c3, if_neg c3]
  by_cases c4 : vs.all (foldedForSure 8) = true
  · rw [if_pos c4, if_pos c4]
    exact ⟨fun _ => rfl, fun z => by cases z⟩
  rw [if_neg c4, if_neg c4]
  by_cases c5 : vs.all (constantsAlone 8) = true
  · rw [if_pos c5, if_pos c5]
    exact ⟨(fun z => by cases z), fun z => by cases z⟩
  rw [if_neg c5, if_neg c5]
  exact ⟨(fun z => by cases z), fun _ => rfl⟩
theorem sw_other {ts : List Expr} {k : Nat} {p : Pos} {e : Expr} (env : PySem.Env) (h : isTgT e = false) : swappedStores [.Tuple ts k p] e env = pure none := by
  cases e <;> first | rfl | cases h
theorem sw_sub {o i : Expr} {p : Pos} (e : Expr) (env : PySem.Env) : swappedStores [.Subscript o i p] e env = pure none := by
  cases e <;> rfl

/-! ### the text of statements -/
/-- name = a comprehension: whether the model stores it from within -/
def swLC (sc scope : Scope) (y : Str) (py pos : Pos) : Bool := (sc.names.lookup y == some .local) && (py.line == pos.line) && !(scope.names.any fun (n, k) => n == y && (k == .local || k == .cell))
theorem sw_lc {sc : Scope} {env : PySem.Env} (hs : env.scope = sc) (hk : sc.kind = .function) {elt : Expr} {gs : List Comprehension} {scope : Scope} {y : Str} {py pos : Pos} (l : Nat) :
    swapsWith (.ListComp elt gs scope pos) (some (.Name y py)) l env = pure (swLC sc scope y py pos) := by
  have hb : env.blockKind = .function := by unfold Env.blockKind; rw [hs, hk]; rfl
  have e : swapsWith (.ListComp elt gs scope pos) (some (.Name y py)) l env = pure (env.blockKind == .function && env.kindOf y == some .local && py.line == pos.line && !(scope.names.any fun (n, k) => n == y && (k == .local || k == .cell))) := rfl
  rw [e, hb]
  unfold swLC Env.kindOf
  rw [hs]
  rfl
theorem lk_local {o : Option NameKind} (h : (o == some .local) = true) : o = some .local := by
  cases o with
  | none => cases h
  | some k => cases k <;> first | rfl | cases h
def tyTup : Expr → Option (List Expr)
  | .Tuple vs _ _ => some vs
  | _ => none
def isLoc (sc : Scope) (x : Str) : Bool := sc.names.lookup x == some .local
/-- plain local names, stored from the right -/
def parOk (sc : Scope) : Pt → List Expr → Bool
  | .t2 (.n i) (.n j), [.Name x px, .Name y py] => decide (i ≠ j) && isLoc sc x && isLoc sc y && decide (swNames sc [.Name x px, .Name y py] = [x, y])
  | .t3 (.n i) (.n j) (.n l), [.Name x px, .Name y py, .Name z pz] => decide (i ≠ j) && decide (i ≠ l) && decide (j ≠ l) && isLoc sc x && isLoc sc y && isLoc sc z && decide (swNames sc [.Name x px, .Name y py, .Name z pz] = [x, y, z])
  | _, _ => false
def tupOk (sc : Scope) (p : Pt) (ts : List Expr) : Expr → Bool
  | .Tuple vs _ _ => decide (swB sc ts vs = 0) || (decide (swB sc ts vs = 1) && parOk sc p ts)
  | _ => true
mutual
def chkS (g : Sg) (N : List Str) (sc so : Scope) : Sx → Stmt → Bool
  | .expr e, .Expr ee _ => !isLC ee && chkE g N sc e ee
  | .asg (.p (.n i)) e, .Assign [.Name x px] ee pos => chkP N so (.n i) (.Name x px) && chkE g N sc e ee
  | .asg (.p p) e, .Assign [.Tuple ts k pt] ee pos => chkP N so p (.Tuple ts k pt) && !isLC ee && chkE g N sc e ee && tupOk sc p ts ee
  | .asg (.sub o i) e, .Assign [.Subscript eo ei _] ee _ => okS ei && !isLC ee && chkE g N sc o eo && chkE g N sc i ei && chkE g N sc e ee
  | .aug i o e, .AugAssign (.Name x px) op ee _ => decide (op = opB o) && chkP N so (.n i) (.Name x px) && chkE g N sc e ee
  | .augS o i op e, .AugAssign (.Subscript eo ei _) eop ee _ => decide (eop = opB op) && okS ei && chkE g N sc o eo && chkE g N sc i ei && chkE g N sc e ee
  | .iff c a b, .If ec as bs _ => chkE g N sc c ec && chkSs g N sc so a as && chkSs g N sc so b bs
  | .fr p it b, .For tg iter bs [] _ => chkI g N sc it iter && okS iter && (!needsT it || isTgT tg) && chkP N so p tg && chkSs g N sc so b bs
  | .wh c b, .While ec bs [] _ => chkE g N sc c ec && chkSs g N sc so b bs
  | .ret e, .Return (some ee) _ => chkE g N sc e ee
  | .retn, .Return none _ => true
  | .brk, .Break _ => true
  | .cont, .Continue _ => true
  | .pass, .Pass _ => true
  | .nev, _ => true
  | _, _ => false
def chkSs (g : Sg) (N : List Str) (sc so : Scope) : Sxs → List Stmt → Bool
  | .nil, [] => true
  | .cons s r, st :: sts => chkS g N sc so s st && chkSs g N sc so r sts
  | _, _ => false
end

/-! ### readings -/
section
variable {K : PySem.W.Frag} {F : List Addr} {H H' : Hp} {r r' : List Addr} {st : Store} {env : Env} {σ : St} {D : Ends}
theorem tIS.eq {o o' : Env → Store → Out Fl} (h : tIS K F o D σ H) (e : ∀ env st, o env st = o' env st) : tIS K F o' D σ H := by
  obtain ⟨r, env, st, R, E, h⟩ := h
  exact ⟨r, env, st, R, E, by rw [← e]; exact h⟩
/-- how a loop's body ends, said of the loop's own end -/
theorem loop_step {w : Watch} {f : PV → Env → Store → Out Fl} {x : PV} {xs : List PV} {o : Out Fl} (h : loopF w f (x :: xs) env st = o) (hb : o ≠ .bad) (hx : ∀ c v s2, o ≠ .exc c v s2) : watchOk w st ∧ ∃ fl st1, f x env st = .ok fl st1 ∧ match fl with
    | .nx e => loopF w f xs e st1 = o
    | .ct e => loopF w f xs e st1 = o
    | .bk e => .ok (.nx e) st1 = o
    | .rt v => .ok (.rt v) st1 = o := by
  unfold loopF at h
  split at h
  · rename_i hw
    cases e : f x env st with
    | bad => rw [e] at h; exact absurd h.symm hb
    | exc c v s2 => rw [e] at h; exact absurd h.symm (hx c v s2)
    | ok fl st1 =>
      rw [e] at h
      refine ⟨hw, fl, st1, rfl, ?_⟩
      cases fl <;> exact h
  · exact absurd h.symm hb
theorem PostS.good {o : Out Fl} (h : PostS K F r H D o) : o ≠ .bad ∧ ∀ c v s2, o ≠ .exc c v s2 := by
  refine ⟨?_, ?_⟩
  · rintro rfl; exact h
  · rintro c v s2 rfl; exact h
theorem for_read {C : Ctx} {p : Pt} {it : Ix} {b : Sxs} (h : tIS K F (evS C (.fr p it b)) D σ H) : tFor (iI K F (evIx C it)) (gI K F p) (tIS K F (evSs C b)) D σ H := by
  obtain ⟨r, env, st, R, E, h⟩ := h
  simp only [evS] at h
  refine ⟨r, env, st, R, E, ?_⟩
  cases hi : evIx C it env st with
  | exc => rw [hi] at h; exact h.elim
  | bad => rw [hi] at h; exact h.elim
  | ok xw st1 =>
    rw [hi] at h
    simp only [bind_ok] at h
    intro H1 r1 J A1 R1 j
    have h := h.aft A1
    generalize hf : (fun x env st => match asgP p x env with
      | some env1 => evSs C b env1 st
      | none => Out.bad) = f at h
    obtain ⟨hb, hx⟩ := h.good
    generalize hO : loopF xw.2 f xw.1 env st1 = O at h hb hx
    refine ⟨fun i m σ' H' => i ≤ xw.1.length ∧ m = xw.1.length - i ∧ ∃ r2 env2 st2, Aft r1 H1 r2 H' ∧ Rel K F H' r2 st2 ∧ EnvRel K F H' r2 env2 σ' ∧ loopF xw.2 f (xw.1.drop i) env2 st2 = O,
      ⟨_, Nat.zero_le _, rfl, r1, env, st1, .refl, R1, E.aft R A1, by rw [List.drop_zero]; exact hO⟩, ?_⟩
    rintro i m σ' H' ⟨hi2, rfl, r2, env2, st2, A2, R2, E2, hl⟩
    by_cases hlt : i < xw.1.length
    · right
      obtain ⟨x, hx2, hd⟩ := drop_get hlt
      rw [hd] at hl
      obtain ⟨hw, fl, st3, hfl, hO2⟩ := loop_step hl hb hx
      obtain ⟨go, yl⟩ := (j F i H' r2 st2 (fun b hb => .inl hb) A2.toF R2 hw).1 x hx2
      refine ⟨go, fun σ' H' => i + 1 ≤ xw.1.length ∧ ∃ r2 env2 st2, Aft r1 H1 r2 H' ∧ Rel K F H' r2 st2 ∧ EnvRel K F H' r2 env2 σ' ∧ loopF xw.2 f (xw.1.drop (i + 1)) env2 st2 = O, fun σ2 H2 hN => ⟨xw.1.length - (i + 1), by omega, hN.1, rfl, hN.2⟩, fun v H3 hy => ?_⟩
      obtain ⟨A3, R3, hv⟩ := yl v H3 hy
      have E3 := E2.aft R2 A3
      rw [← hf] at hfl
      dsimp only at hfl
      split at hfl
      · rename_i env1 he1
        refine ⟨r2, st2, env2, x, env1, R3, E3, hv, he1, fun σ4 E4 _ => ⟨r2, env1, st2, R3, E4, ?_⟩⟩
        rw [hfl]
        cases fl with
        | nx e => exact fun σ5 H5 r5 A5 R5 E5 => ⟨hlt, r5, e, st3, (A2.trans A3).trans A5, R5, E5, hO2⟩
        | ct e => exact fun σ5 H5 r5 A5 R5 E5 => ⟨hlt, r5, e, st3, (A2.trans A3).trans A5, R5, E5, hO2⟩
        | bk e =>
          rw [← hO2] at h
          exact fun σ5 H5 r5 A5 R5 E5 => h σ5 H5 r5 ((A2.trans A3).trans A5) R5 E5
        | rt v =>
          rw [← hO2] at h
          exact fun v5 H5 r5 A5 R5 E5 => h v5 H5 r5 ((A2.trans A3).trans A5) R5 E5
      · cases hfl
    · left
      have hi3 : i = xw.1.length := by omega
      subst hi3
      rw [List.drop_length] at hl
      unfold loopF at hl
      split at hl
      · rename_i hw
        refine ⟨(j F _ H' r2 st2 (fun b hb => .inl hb) A2.toF R2 hw).2 (Nat.le_refl _), ?_⟩
        rw [← hl] at h
        exact h σ' H' r2 A2 R2 E2
      · exact absurd hl.symm hb
theorem while_read {C : Ctx} {c : Ex} {b : Sxs} (h : tIS K F (evS C (.wh c b)) D σ H) : tWhile (tIT K F (evC C c)) (tIS K F (evSs C b)) D σ H := by
  obtain ⟨r, env, st, R, E, h⟩ := h
  simp only [evS] at h
  obtain ⟨hb, hx⟩ := h.good
  generalize hO : whN (evC C c) (evSs C b) wfuel env st = O at h hb hx
  refine ⟨fun m σ' H' => ∃ r2 env2 st2, Aft r H r2 H' ∧ Rel K F H' r2 st2 ∧ EnvRel K F H' r2 env2 σ' ∧ whN (evC C c) (evSs C b) m env2 st2 = O, ⟨wfuel, r, env, st, .refl, R, E, hO⟩, ?_⟩
  rintro m σ' H' ⟨r2, env2, st2, A2, R2, E2, hl⟩
  cases m with
  | zero => exact absurd hl.symm hb
  | succ m =>
    simp only [whN] at hl
    refine ⟨r2, env2, st2, R2, E2, ?_⟩
    cases k1 : evC C c env2 st2 with
    | bad => rw [k1] at hl; exact absurd hl.symm hb
    | exc a v s2 => rw [k1] at hl; exact absurd hl.symm (hx a v s2)
    | ok t st3 =>
      rw [k1] at hl
      simp only [bind_ok] at hl
      intro H3 r3 A3 R3
      cases t with
      | false =>
        rw [if_neg Bool.false_ne_true] at hl ⊢
        rw [← hl] at h
        exact h σ' H3 r3 (A2.trans A3) R3 (E2.aft R2 A3)
      | true =>
        rw [if_pos rfl] at hl ⊢
        refine ⟨fun σ' H' => ∃ r2 env2 st2, Aft r H r2 H' ∧ Rel K F H' r2 st2 ∧ EnvRel K F H' r2 env2 σ' ∧ whN (evC C c) (evSs C b) m env2 st2 = O, fun σ4 H4 q => ⟨m, Nat.lt_succ_self m, q⟩, r3, env2, st3, R3, E2.aft R2 A3, ?_⟩
        cases k2 : evSs C b env2 st3 with
        | bad => rw [k2] at hl; exact absurd hl.symm hb
        | exc a v s2 => rw [k2] at hl; exact absurd hl.symm (hx a v s2)
        | ok fl st4 =>
          rw [k2] at hl
          simp only [bind_ok] at hl
          cases fl with
          | nx e => exact fun σ5 H5 r5 A5 R5 E5 => ⟨r5, e, st4, (A2.trans A3).trans A5, R5, E5, hl⟩
          | ct e => exact fun σ5 H5 r5 A5 R5 E5 => ⟨r5, e, st4, (A2.trans A3).trans A5, R5, E5, hl⟩
          | bk e =>
            dsimp only at hl
            rw [← hl] at h
            exact fun σ5 H5 r5 A5 R5 E5 => h σ5 H5 r5 ((A2.trans A3).trans A5) R5 E5
          | rt v =>
            dsimp only at hl
            rw [← hl] at h
            exact fun v5 H5 r5 A5 R5 E5 => h v5 H5 r5 ((A2.trans A3).trans A5) R5 E5
theorem if_read {C : Ctx} {c : Ex} {a b : Sxs} (h : tIS K F (evS C (.iff c a b)) D σ H) : tIfS (tIT K F (evC C c)) (tIS K F (evSs C a)) (tIS K F (evSs C b)) D σ H := by
  obtain ⟨r, env, st, R, E, h⟩ := h
  simp only [evS] at h
  refine ⟨r, env, st, R, E, ?_⟩
  cases k1 : evC C c env st with
  | bad => rw [k1] at h; exact h.elim
  | exc => rw [k1] at h; exact h.elim
  | ok t st1 =>
    rw [k1] at h
    simp only [bind_ok] at h
    intro H1 r1 A1 R1
    have h := h.aft A1
    cases t with
    | true => exact ⟨r1, env, st1, R1, E.aft R A1, h⟩
    | false => exact ⟨r1, env, st1, R1, E.aft R A1, h⟩
theorem seq_read {C : Ctx} {s : Sx} {rs : Sxs} (h : tIS K F (evSs C (.cons s rs)) D σ H) : tSeq (tIS K F (evS C s)) (tIS K F (evSs C rs)) D σ H := by
  obtain ⟨r, env, st, R, E, h⟩ := h
  simp only [evSs] at h
  refine ⟨r, env, st, R, E, ?_⟩
  cases k1 : evS C s env st with
  | bad => rw [k1] at h; exact h.elim
  | exc => rw [k1] at h; exact h.elim
  | ok fl st1 =>
    rw [k1] at h
    simp only [bind_ok] at h
    cases fl with
    | nx e => exact fun σ1 H1 r1 A1 R1 E1 => ⟨r1, e, st1, R1, E1, h.aft A1⟩
    | bk e => exact h
    | ct e => exact h
    | rt v => exact h
/-- a value, then a target: what is left -/
theorem asg_read {C : Ctx} {p : Pt} {e : Ex} (h : tIS K F (evS C (.asg (.p p) e)) D σ H) : tI K F (evE C e) σ H fun v H1 => gI K F p v σ H1 D.nx := by
  obtain ⟨r, env, st, R, E, h⟩ := h
  simp only [evS] at h
  refine ⟨r, env, st, R, E, ?_⟩
  cases k1 : evE C e env st with
  | bad => rw [k1] at h; exact h.elim
  | exc => rw [k1] at h; exact h.elim
  | ok x st1 =>
    rw [k1] at h
    simp only [bind_ok] at h
    intro v H1 r1 A1 R1 hv
    have h := h.aft A1
    split at h
    · rename_i env1 he
      exact ⟨r1, st1, env, x, env1, R1, E.aft R A1, hv, he, fun σ' E' _ => h σ' H1 r1 .refl R1 E'⟩
    · exact h.elim
theorem gI_name {i : Nat} {v : V} {Q : St → Hp → Prop} (h : gI K F (.n i) v σ H Q) : gName i v σ H Q := by
  obtain ⟨r, st, env, q, env', R, E, hv, e1, h⟩ := h
  cases e1
  exact h _ (E.set i hv) fun vs hvs => wipe_set_in σ _ vs i (hvs i (by simp [Pt.slots]))
end
end L2.Iv

/-! IvK: statements do what the language says: the induction itself. Own work. -/
namespace L2.Iv
open PySem PySem.Spec PyProof.Rows

section
variable {X : Cx} {g : Sg} {n : Nat} {N : List Str} {sc so : Scope} {F : List Addr}
/-- a op= b of the language -/
def rAug (K : PySem.W.Frag) (F : List Addr) (o : Bop) : TIp := fun x y H Q => ∃ r st p q z, Rel K F H r st ∧ Rep K F H r x p ∧ Rep K F H r y q ∧ augV o p q = some z ∧ ∀ v, Rep K F H r v z → Q v H
theorem ip_aug (o : Bop) : PIp X (opB o) (rAug X.K F o) := by
  intro pins s σ H x y v u Q I rx ry h
  obtain ⟨r, st, p, q, z, R, hp, hq, e, k⟩ := h
  cases hp <;> cases hq <;> first | (cases e; done) | skip
  · cases o <;> first | (cases e; done) | skip
    · cases e
      exact iop_add pins s σ H _ _ v u Q I rx ry ⟨_, _, rfl, rfl, k _ (.int _)⟩
    · cases e
      exact iop_sub pins s σ H _ _ v u Q I rx ry ⟨_, _, rfl, rfl, k _ (.int _)⟩
  · cases o <;> first | (cases e; done) | skip
    rename_i a b
    simp only [augV] at e
    split at e
    · cases e
      exact iop_add_str pins s σ H _ _ v u Q I rx ry ⟨_, _, rfl, rfl, by assumption, k _ (.str _)⟩
    · cases e
/-- o[i] of a list that is written -/
def rLoc (K : PySem.W.Frag) (F : List Addr) : V → V → Hp → VK → Prop := fun x y H Q => ∃ r st p q z, Rel K F H r st ∧ Rep K F H r x p ∧ Rep K F H r y q ∧ locV st p q = some z ∧ ∀ v, Rep K F H r v z → Q v H
theorem get_loc : PGet X (rLoc X.K F) := by
  intro pins s σ H x y v u Q I rx ry h
  obtain ⟨r, st, p, q, z, R, hp, hq, e, k⟩ := h
  cases hp <;> cases hq <;> first | (cases e; done) | skip
  rename_i a l hl i
  simp only [locV] at e
  split at e
  · rename_i xs hx
    obtain ⟨ys, vs, e1, e2, e3⟩ := R.cell hl
    rw [hx] at e1; cases e1
    cases rx
    obtain ⟨t, rfl⟩ := ry
    obtain ⟨its, rr, pl, hz⟩ := I.list (SqL.of e2)
    obtain ⟨j, h1, h2, h3, h4, h5⟩ := atI_get e
    obtain ⟨w, ew, rw'⟩ := e3.get2 h2
    obtain ⟨w2, ew2, rw2⟩ := rr.get ew
    have hl1 := rr.length
    have hl2 := e3.length
    have hn := line63
    have fin : EP X pins σ Q w2 s := ⟨w, H, I, rw2, k w rw'⟩
    by_cases h0 : 0 ≤ i
    · have hj : i.toNat = j := by
        rw [seqIndex_of h0 h5] at h1
        exact Option.some.inj h1
      exact wpAny_getItem_list pl.isList h0 (by omega) (by rw [hj]; simpa using ew2) fin
    · have hj : (i + (its.toArray.size : Int)).toNat = j := by
        rw [seqIndex_neg (by omega) h4] at h1
        rw [List.size_toArray, ← hl1, hl2]
        exact Option.some.inj h1
      exact wpAny_getItem_list_neg pl.isList (by omega) (by rw [List.size_toArray] <;> omega) (by omega) (by rw [hj]; simpa using ew2) fin
  · cases e
/-- o[i] = v of the language -/
def rSto (K : PySem.W.Frag) (F : List Addr) : TSet := fun o i v H Q => ∃ r st p q z st2, Rel K F H r st ∧ Rep K F H r o p ∧ Rep K F H r i q ∧ Rep K F H r v z ∧ setV st p q z = some st2 ∧ ∀ H2, Aft r H r H2 → Rel K F H2 r st2 → Q H2
theorem sto_loc : PSet X (rSto X.K F) := by
  intro pins s σ H o i v ov iv u Q I ro ri rv h
  obtain ⟨r, st, p, q, z, st2, R, hp, hq, hz, e, k⟩ := h
  cases hp <;> cases hq <;> first | (cases e; done) | skip
  rename_i a l hl i
  simp only [setV] at e
  split at e
  · rename_i xs hx
    obtain ⟨ys, vs, e1, e2, e3⟩ := R.cell hl
    rw [hx] at e1; cases e1
    cases hj : ixN xs.length i with
    | none => rw [hj] at e; cases e
    | some j =>
      rw [hj] at e
      cases e
      refine set_list pins s σ H _ _ v ov iv u Q I ro ri rv ⟨a, vs, i, j, rfl, rfl, e2, by rw [e3.length]; exact hj, ?_⟩
      exact k _ (Aft.write (List.mem_of_getElem? hl)) (R.write hl (e3.set hz j))
  · cases e
end

section
variable {X : Cx} {g : Sg} {n : Nat} {N : List Str} {sc so : Scope} {F : List Addr}
theorem post_step {K : PySem.W.Frag} {D : Ends} {r : List Addr} {H : Hp} {o : Out PV} {f : PV → Store → Out Fl} (h : PostS K F r H D (o.bind f)) : Post K F r H (fun v H1 => ∃ r1 st1 p, Aft r H r1 H1 ∧ Rel K F H1 r1 st1 ∧ Rep K F H1 r1 v p ∧ PostS K F r1 H1 D (f p st1)) o := by
  cases o with
  | ok p st1 => exact fun v H1 r1 A R hv => ⟨r1, st1, p, A, R, hv, h.aft A⟩
  | exc => exact h.elim
  | bad => exact h.elim
theorem Std.nN (S : Std X g n N sc so) : X.N.Nodup := by rw [S.eN]; exact S.nd
theorem Std.at (S : Std X g n N sc so) {i : Nat} {x : Str} (h : chkP N so (.n i) (.Name x ⟨0, 0, 0, 0⟩) = true) : X.N[i]? = some x ∧ Loc X.env.scope x ∧ (X.fn x = true ∨ X.env.scope.names.lookup x = some .local) := by
  have h : (decide (N[i]? = some x) && loc so x) = true := h
  simp only [Bool.and_eq_true, decide_eq_true_eq] at h
  obtain ⟨q1, q2⟩ := S.so x (loc_of h.2)
  rw [S.eN, S.eS]
  exact ⟨h.1, q1, q2⟩

theorem aug_read {K : PySem.W.Frag} {C : Ctx} {i : Nat} {o : Bop} {e : Ex} {σ : St} {H : Hp} {D : Ends} (h : tIS K F (evS C (.aug i o e)) D σ H) : tAug i (tI K F (evE C e)) (rAug K F o) D σ H := by
  obtain ⟨r, env, st, R, E, h⟩ := h
  simp only [evS] at h
  split at h
  · rename_i v hv
    obtain ⟨x, hx, hr⟩ := E.get i v hv
    refine ⟨x, hx, r, env, st, R, E, ?_⟩
    cases k1 : evE C e env st with
    | bad => rw [k1] at h; exact h.elim
    | exc => rw [k1] at h; exact h.elim
    | ok p st1 =>
      rw [k1] at h
      simp only [bind_ok] at h
      intro y H1 r1 A1 R1 hy
      have h := h.aft A1
      split at h
      · rename_i z hz
        exact ⟨r1, st1, v, p, z, R1, hr.aft R A1, hy, hz, fun u hu => h _ H1 r1 .refl R1 ((E.aft R A1).set i hu)⟩
      · exact h.elim
  · exact h.elim
theorem augS_read {K : PySem.W.Frag} {C : Ctx} {a i : Ex} {o : Bop} {e : Ex} {σ : St} {H : Hp} {D : Ends} (h : tIS K F (evS C (.augS a i o e)) D σ H) :
    tAugS (tI K F (evE C a)) (tI K F (evE C i)) (tI K F (evE C e)) (rLoc K F) (rAug K F o) (rSto K F) D σ H := by
  obtain ⟨r, env, st, R, E, h⟩ := h
  simp only [evS] at h
  refine ⟨r, env, st, R, E, ?_⟩
  cases k1 : evE C a env st with
  | bad => rw [k1] at h; exact h.elim
  | exc => rw [k1] at h; exact h.elim
  | ok p st1 =>
    rw [k1] at h
    simp only [bind_ok] at h
    intro x H1 r1 A1 R1 hx
    have h := h.aft A1
    have E1 := E.aft R A1
    refine ⟨r1, env, st1, R1, E1, ?_⟩
    cases k2 : evE C i env st1 with
    | bad => rw [k2] at h; exact h.elim
    | exc => rw [k2] at h; exact h.elim
    | ok q st2 =>
      rw [k2] at h
      simp only [bind_ok] at h
      intro y H2 r2 A2 R2 hy
      have h := h.aft A2
      have E2 := E1.aft R1 A2
      have hx2 := hx.aft R1 A2
      split at h
      · rename_i v hv
        refine ⟨r2, st2, p, q, v, R2, hx2, hy, hv, fun old ho => ⟨r2, env, st2, R2, E2, ?_⟩⟩
        cases k3 : evE C e env st2 with
        | bad => rw [k3] at h; exact h.elim
        | exc => rw [k3] at h; exact h.elim
        | ok z st3 =>
          rw [k3] at h
          simp only [bind_ok] at h
          intro w H3 r3 A3 R3 hw
          have h := h.aft A3
          split at h
          · rename_i u hu
            refine ⟨r3, st3, v, z, u, R3, ho.aft R2 A3, hw, hu, fun nw hn => ?_⟩
            split at h
            · rename_i st4 h4
              exact ⟨r3, st3, p, q, u, st4, R3, hx2.aft R2 A3, hy.aft R2 A3, hn, h4, fun H4 A4 R4 => h σ H4 r3 A4 R4 ((E2.aft R2 A3).aft R3 A4)⟩
            · exact h.elim
          · exact h.elim
      · exact h.elim
theorem sub_read {K : PySem.W.Frag} {C : Ctx} {a i : Ex} {e : Ex} {σ : St} {H : Hp} {D : Ends} (h : tIS K F (evS C (.asg (.sub a i) e)) D σ H) :
    tAsg (tI K F (evE C e)) (gSub (tI K F (evE C a)) (tI K F (evE C i)) (rSto K F)) D σ H := by
  obtain ⟨r, env, st, R, E, h⟩ := h
  simp only [evS] at h
  refine ⟨r, env, st, R, E, ?_⟩
  cases k1 : evE C e env st with
  | bad => rw [k1] at h; exact h.elim
  | exc => rw [k1] at h; exact h.elim
  | ok p st1 =>
    rw [k1] at h
    simp only [bind_ok] at h
    intro x H1 r1 A1 R1 hx
    have h := h.aft A1
    have E1 := E.aft R A1
    refine ⟨r1, env, st1, R1, E1, ?_⟩
    cases k2 : evE C a env st1 with
    | bad => rw [k2] at h; exact h.elim
    | exc => rw [k2] at h; exact h.elim
    | ok q st2 =>
      rw [k2] at h
      simp only [bind_ok] at h
      intro y H2 r2 A2 R2 hy
      have h := h.aft A2
      have E2 := E1.aft R1 A2
      have hx2 := hx.aft R1 A2
      refine ⟨r2, env, st2, R2, E2, ?_⟩
      cases k3 : evE C i env st2 with
      | bad => rw [k3] at h; exact h.elim
      | exc => rw [k3] at h; exact h.elim
      | ok z st3 =>
        rw [k3] at h
        simp only [bind_ok] at h
        intro w H3 r3 A3 R3 hw
        have h := h.aft A3
        split at h
        · rename_i st4 h4
          exact ⟨r3, st3, q, z, p, st4, R3, hy.aft R2 A3, hw, hx2.aft R2 A3, h4, fun H4 A4 R4 => h σ H4 r3 A4 R4 ((E2.aft R2 A3).aft R3 A4)⟩
        · exact h.elim
theorem par_read {K : PySem.W.Frag} {C : Ctx} {p : Pt} {es : Exs} {σ : St} {H : Hp} {D : Ends} (h : tIS K F (evS C (.asg (.p p) (.tup es))) D σ H) :
    tIA K F (evEs C es) σ H fun vs H1 => ∃ r1 st1 env ps env1, Rel K F H1 r1 st1 ∧ EnvRel K F H1 r1 env σ ∧ Reps K F H1 r1 vs ps ∧ asgP p (.tup ps) env = some env1 ∧ ∀ σ', EnvRel K F H1 r1 env1 σ' → D.nx σ' H1 := by
  obtain ⟨r, env, st, R, E, h⟩ := h
  simp only [evS, evE] at h
  refine ⟨r, env, st, R, E, ?_⟩
  cases k1 : evEs C es env st with
  | bad => rw [k1] at h; exact h.elim
  | exc => rw [k1] at h; exact h.elim
  | ok ps st1 =>
    rw [k1] at h
    simp only [bind_ok] at h
    intro vs H1 r1 A1 R1 hv
    have h := h.aft A1
    split at h
    · simp only [bind_ok] at h
      split at h
      · rename_i env1 he
        exact ⟨r1, st1, env, ps, env1, R1, E.aft R A1, hv, he, fun σ' E' => h σ' H1 r1 .refl R1 E'⟩
      · exact h.elim
    · exact h.elim
theorem ret_read {K : PySem.W.Frag} {C : Ctx} {e : Ex} {σ : St} {H : Hp} {D : Ends} (h : tIS K F (evS C (.ret e)) D σ H) : tI K F (evE C e) σ H D.rt := by
  have h := tIS.step (o := evE C e) (f := fun x env st1 => .ok (.rt x) st1) h
  obtain ⟨r, env, st, R, E, h⟩ := h
  refine ⟨r, env, st, R, E, ?_⟩
  cases k1 : evE C e env st with
  | bad => rw [k1] at h; exact h
  | exc => rw [k1] at h; exact h
  | ok p st1 =>
    rw [k1] at h
    intro v H1 r1 A1 R1 hv
    obtain ⟨r2, env2, st2, p2, R2, E2, hv2, h⟩ := h v H1 r1 A1 R1 hv
    exact h v H1 r2 .refl R2 hv2
theorem expr_read {K : PySem.W.Frag} {C : Ctx} {e : Ex} {σ : St} {H : Hp} {D : Ends} (h : tIS K F (evS C (.expr e)) D σ H) : tI K F (evE C e) σ H fun _ H1 => D.nx σ H1 := by
  have h := tIS.step (o := evE C e) (f := fun x env st1 => .ok (.nx env) st1) h
  obtain ⟨r, env, st, R, E, h⟩ := h
  refine ⟨r, env, st, R, E, ?_⟩
  cases k1 : evE C e env st with
  | bad => rw [k1] at h; exact h
  | exc => rw [k1] at h; exact h
  | ok p st1 =>
    rw [k1] at h
    intro v H1 r1 A1 R1 hv
    obtain ⟨r2, env2, st2, p2, R2, E2, hv2, h⟩ := h v H1 r1 A1 R1 hv
    exact h σ H1 r2 .refl R2 E2
theorem sole_eq {t v : Expr} {l : Nat} {env : PySem.Env} : swapsWithSole [t] v l env = swapsWith v (some t) l env := rfl
theorem par_sw {ts vs : List Expr} {sc : Scope} {env : PySem.Env} {k k2 : Nat} {p p2 : Pos} {ns : List Str} (hs : env.scope = sc) (hk : sc.kind = .function) (h : swB sc ts vs = 1) (e : swNames sc ts = ns) :
    swappedStores [.Tuple ts k p] (.Tuple vs k2 p2) env = pure (some ns) := by
  rw [← e]; exact (sw_gen hs hk ts vs k k2 p p2).2 h

mutual
theorem snd_S : ∀ (sx : Sx) {X : Cx} {N : List Str} {sc so : Scope} (S : Std X g n N sc so) (hk : sc.kind = .function) {s : Stmt}, chkS g N sc so sx s = true → ∀ F, PS X s (tIS X.K F (evS (g.ctx n) sx))
  | .expr e, X, N, sc, so, S, hk, s, h, F => by
    cases s <;> first | (cases h; done) | skip
    rename_i ee pos
    have h : (!isLC ee && chkE g N sc e ee) = true := h
    simp only [Bool.and_eq_true, Bool.not_eq_true'] at h
    exact PS.imp (ps_expr (snd_E e S h.2 F).1 (okS_sw (chk_okS h.2) h.1 _ _ _)) fun D σ H q => expr_read q
  | .asg (.p p) e, X, N, sc, so, S, hk, s, h, F => by
    cases s <;> first | (cases p <;> cases h; done) | skip
    rename_i tgs ee pos
    have hh : (∃ i x px, p = .n i ∧ tgs = [.Name x px] ∧ (chkP N so (.n i) (.Name x px) && chkE g N sc e ee) = true) ∨
        ∃ ts k pt, tgs = [.Tuple ts k pt] ∧ (chkP N so p (.Tuple ts k pt) && !isLC ee && chkE g N sc e ee && tupOk sc p ts ee) = true := by
      match tgs, h with
      | [tg], h =>
        cases tg <;> first | (cases p <;> cases h; done) | skip
        · left
          cases p <;> first | (cases h; done) | skip
          exact ⟨_, _, _, rfl, rfl, h⟩
        · right
          refine ⟨_, _, _, rfl, ?_⟩
          cases p <;> exact h
      | [], h => cases p <;> cases h
      | a :: _ :: _, h => cases p <;> cases a <;> cases h
    clear h
    rcases hh with ⟨i, x, px, rfl, rfl, h⟩ | ⟨ts, k, pt, rfl, h⟩
    · simp only [Bool.and_eq_true] at h
      obtain ⟨h1, h2⟩ := h
      obtain ⟨hi, hl, hf⟩ := S.at (i := i) (x := x) h1
      have hN := S.nN
      have plain : ∀ (hs : swapsWith ee (some (.Name x px)) pos.line X.env = pure false), PS X (.Assign [.Name x px] ee pos) (tIS X.K F (evS (g.ctx n) (.asg (.p (.n i)) e))) := fun hs =>
        PS.imp (ps_set (pos' := px) hN hi hl (snd_E e S h2 F).1 hs hf) fun D σ H q => by
          obtain ⟨r, env, st, R, E, q⟩ := asg_read q
          refine ⟨r, env, st, R, E, ?_⟩
          cases k1 : evE (g.ctx n) e env st with
          | bad => rw [k1] at q; exact q
          | exc => rw [k1] at q; exact q
          | ok p st1 =>
            rw [k1] at q
            exact fun v H1 r1 A1 R1 hv => gI_name (q v H1 r1 A1 R1 hv)
      by_cases hlc : isLC ee = true
      · cases ee <;> first | (cases hlc; done) | skip
        rename_i elt gens scope lpos
        cases hsw : swLC sc scope x px lpos with
        | false => exact plain (by rw [sw_lc S.eS hk, hsw])
        | true =>
          have hsl : X.env.scope.names.lookup x = some .local := by
            rw [S.eS]
            unfold swLC at hsw
            simp only [Bool.and_eq_true] at hsw
            exact lk_local hsw.1.1
          have hsw2 : swapsWith (.ListComp elt gens scope lpos) (some (.Name x px)) pos.line X.env = pure true := by rw [sw_lc S.eS hk, hsw]
          cases e <;> first | (cases h2; done) | skip
          · rename_i fr own p it cs el
            match gens, h2 with
            | [⟨tg, iter, ifs, 0⟩], h =>
              have h : (blkC N sc scope (ownL N own) && chkI g N sc it iter && okS iter && (!needsT it || isTgT tg) && decide (∀ i ∈ p.slots, i ∈ own) && chkP N scope p tg && decide (ifs.length ≤ 1) && chkEs g N (relS scope sc) cs ifs && chkE g N (relS scope sc) el elt) = true := h
              simp only [Bool.and_eq_true, decide_eq_true_eq] at h
              obtain ⟨⟨⟨⟨⟨⟨⟨⟨hb, hi2⟩, ho⟩, ht⟩, hown⟩, hp⟩, hl2⟩, hcs⟩, he⟩ := h
              have own2 : (ownL N own).map (·.2) = own := by simp [ownL, List.map_map, Function.comp_def]
              refine PS.imp (ps_setLc (own := ownL N own) (g := gX X.K p) (tt := tTX X.K (evTests (g.ctx n) cs)) (te := tX X.K (evE (g.ctx n) el)) S.cal.calm hN hi hsl hsw2 (snd_I it S hi2 (fun z => by rw [z] at ht; simpa using ht) F) (blkOk_by (by rw [S.eN, S.eS]; exact hb))
                (fun s H C cl fp => pg_any fun F => (pg_I (S.blk) F p tg hp).1) (fun s H C cl fp => (snd_Es cs (S.blk) hcs).ts hl2) (fun s H C cl fp => pe_any fun F => (snd_E el (S.blk) he F).1) (fun x => okS_set ho _ _)) fun D σ H q => ?_
              rw [own2]
              refine lc_read (fr := fr) (Q := fun v H1 => gName i v σ H1 D.nx) hown ?_
              obtain ⟨r, env, st, R, E, q⟩ := asg_read q
              refine ⟨r, env, st, R, E, ?_⟩
              cases k1 : evE (g.ctx n) (.lc fr own p it cs el) env st with
              | bad => rw [k1] at q; exact q
              | exc => rw [k1] at q; exact q
              | ok p st1 =>
                rw [k1] at q
                exact fun v H1 r1 A1 R1 hv => gI_name (q v H1 r1 A1 R1 hv)
            | [], h => cases h
            | ⟨_, _, _, 0⟩ :: ⟨_, _, _, 0⟩ :: _, h => cases h
            | ⟨_, _, _, 0⟩ :: ⟨_, _, _, (_ + 1 : Nat)⟩ :: _, h => cases h
            | ⟨_, _, _, 0⟩ :: ⟨_, _, _, Int.negSucc _⟩ :: _, h => cases h
            | ⟨_, _, _, (_ + 1 : Nat)⟩ :: _, h => cases h
            | ⟨_, _, _, Int.negSucc _⟩ :: _, h => cases h
          · rename_i fr own p it cs vs2 p2 it2 cs2 el
            match gens, h2 with
            | [⟨tg, iter, ifs, 0⟩, ⟨tg2, iter2, ifs2, 0⟩], h =>
              have h : (blkC N sc scope (ownL N own) && chkI g N sc it iter && okS iter && (!needsT it || isTgT tg) && decide (∀ i ∈ p.slots, i ∈ own) && chkP N scope p tg && decide (ifs.length ≤ 1) && chkEs g N (relS scope sc) cs ifs &&
                decide (∀ i ∈ vs2, i ∈ own) && chkI g N (relS scope sc) it2 iter2 && okS iter2 && (!needsT it2 || isTgT tg2) && decide (∀ i ∈ p2.slots, i ∈ vs2) && chkP N scope p2 tg2 && decide (ifs2.length ≤ 1) && chkEs g N (relS scope sc) cs2 ifs2 && chkE g N (relS scope sc) el elt) = true := h
              simp only [Bool.and_eq_true, decide_eq_true_eq] at h
              obtain ⟨⟨⟨⟨⟨⟨⟨⟨⟨⟨⟨⟨⟨⟨⟨⟨hb, hi2⟩, ho⟩, ht⟩, hown⟩, hp⟩, hl2⟩, hcs⟩, hv⟩, hi3⟩, ho2⟩, ht2⟩, hown2⟩, hp2⟩, hl3⟩, hcs2⟩, he⟩ := h
              have own2 : (ownL N own).map (·.2) = own := by simp [ownL, List.map_map, Function.comp_def]
              refine PS.imp (ps_setLc2 (own := ownL N own) (g := gX X.K p) (tt := tTX X.K (evTests (g.ctx n) cs)) (g1 := gX X.K p2) (tt1 := tTX X.K (evTests (g.ctx n) cs2)) (wi1 := iX X.K (evIx (g.ctx n) it2)) (te := tX X.K (evE (g.ctx n) el)) S.cal.calm hN hi hsl hsw2 (snd_I it S hi2 (fun z => by rw [z] at ht; simpa using ht) F) (blkOk_by (by rw [S.eN, S.eS]; exact hb)) (by rw [own2]; exact hv)
                (fun s H C cl fp => pg_any fun F => (pg_I (S.blk) F p tg hp).1) (fun s H C cl fp => (snd_Es cs (S.blk) hcs).ts hl2) (fun s H C cl fp => pi_any fun F => snd_I it2 (S.blk) hi3 (fun z => by rw [z] at ht2; simpa using ht2) F)
                (fun s H C cl fp => pg_any fun F => (pg_I (S.blk) F p2 tg2 hp2).1) (fun s H C cl fp => (snd_Es cs2 (S.blk) hcs2).ts hl3) (fun s H C cl fp => pe_any fun F => (snd_E el (S.blk) he F).1) (fun x => okS_set ho _ _) (fun env x => okS_set ho2 _ _)) fun D σ H q => ?_
              rw [own2]
              refine lc2_read (fr := fr) (Q := fun v H1 => gName i v σ H1 D.nx) hown hown2 ?_
              obtain ⟨r, env, st, R, E, q⟩ := asg_read q
              refine ⟨r, env, st, R, E, ?_⟩
              cases k1 : evE (g.ctx n) (.lc2 fr own p it cs vs2 p2 it2 cs2 el) env st with
              | bad => rw [k1] at q; exact q
              | exc => rw [k1] at q; exact q
              | ok p st1 =>
                rw [k1] at q
                exact fun v H1 r1 A1 R1 hv => gI_name (q v H1 r1 A1 R1 hv)
            | [], h => cases h
            | [⟨_, _, _, 0⟩], h => cases h
            | ⟨_, _, _, 0⟩ :: ⟨_, _, _, 0⟩ :: _ :: _, h => cases h
            | ⟨_, _, _, 0⟩ :: ⟨_, _, _, (_ + 1 : Nat)⟩ :: _, h => cases h
            | ⟨_, _, _, 0⟩ :: ⟨_, _, _, Int.negSucc _⟩ :: _, h => cases h
            | ⟨_, _, _, (_ + 1 : Nat)⟩ :: _, h => cases h
            | ⟨_, _, _, Int.negSucc _⟩ :: _, h => cases h
      · exact plain (okS_sw (chk_okS h2) (by simpa using hlc) _ _ _)
    · simp only [Bool.and_eq_true, Bool.not_eq_true'] at h
      obtain ⟨⟨⟨h1, hlc⟩, h2⟩, h3⟩ := h
      have plain : ∀ (hw : swappedStores [.Tuple ts k pt] ee X.env = pure none), PS X (.Assign [.Tuple ts k pt] ee pos) (tIS X.K F (evS (g.ctx n) (.asg (.p p) e))) := fun hw =>
        PS.imp (ps_asg (snd_E e S h2 F).1 (pg_I S F p _ h1).1 (show swapsWithSole [.Tuple ts k pt] ee pos.line X.env = pure false from sole_eq.trans (okS_sw (chk_okS h2) hlc _ _ _)) hw) fun D σ H q => asg_read q
      cases ht : isTgT ee with
      | false => exact plain (sw_other _ ht)
      | true =>
        cases ee <;> first | (cases ht; done) | skip
        rename_i vs k2 p2
        unfold tupOk at h3
        rw [Bool.or_eq_true, decide_eq_true_eq, Bool.and_eq_true, decide_eq_true_eq] at h3
        rcases h3 with h3 | ⟨h3, h4⟩
        · exact plain ((sw_gen S.eS hk ts vs k k2 pt p2).1 h3)
        · cases e <;> first | (cases h2; done) | skip
          rename_i es
          have h2 : chkEs g N sc es vs = true := h2
          have qs := snd_Es es S h2
          unfold parOk at h4
          split at h4
          · rename_i i j x px y py
            simp only [Bool.and_eq_true, decide_eq_true_eq] at h4
            obtain ⟨⟨⟨hij, hx⟩, hy⟩, hn⟩ := h4
            have h1 : ((decide (N[i]? = some x) && loc so x) && (decide (N[j]? = some y) && loc so y)) = true := h1
            simp only [Bool.and_eq_true, decide_eq_true_eq] at h1
            have hw := par_sw (k := k) (k2 := k2) (p := pt) (p2 := p2) S.eS hk h3 hn
            match vs, hw, qs, hlc with
            | [a, b], hw, qs, hlc =>
              refine PS.imp (ps_par (pos := pos) S.cal.calm S.nN (by rw [S.eN]; exact h1.1.1) (by rw [S.eN]; exact h1.2.1) hij (by rw [S.eS]; exact lk_local hx) (by rw [S.eS]; exact lk_local hy) (qs.pa F) hw) fun D σ H q => ?_
              obtain ⟨r, env, st, R, E, q⟩ := par_read q
              refine ⟨r, env, st, R, E, ?_⟩
              cases k1 : evEs (g.ctx n) es env st with
              | bad => rw [k1] at q; exact q
              | exc => rw [k1] at q; exact q
              | ok ps st1 =>
                rw [k1] at q
                intro vs H1 r1 A1 R1 hv
                obtain ⟨r2, st2, env2, ps2, env3, R2, E2, hv2, e2, q⟩ := q vs H1 r1 A1 R1 hv
                match ps2, e2, hv2 with
                | [z1, z2], e2, .cons (v := v1) a1 (.cons (v := v2) a2 .nil) =>
                  cases e2
                  exact ⟨v1, v2, rfl, q _ ((E2.set i a1).set j a2)⟩
            | [], _, _, _ => simp [swB] at h3
            | [_], _, _, _ => simp [swB] at h3
            | _ :: _ :: _ :: _, _, _, _ => simp [swB] at h3
          · rename_i i j l x px y py z pz
            simp only [Bool.and_eq_true, decide_eq_true_eq] at h4
            obtain ⟨⟨⟨⟨⟨⟨hij, hil⟩, hjl⟩, hx⟩, hy⟩, hz⟩, hn⟩ := h4
            have h1 : ((decide (N[i]? = some x) && loc so x) && (decide (N[j]? = some y) && loc so y) && (decide (N[l]? = some z) && loc so z)) = true := h1
            simp only [Bool.and_eq_true, decide_eq_true_eq] at h1
            have hw := par_sw (k := k) (k2 := k2) (p := pt) (p2 := p2) S.eS hk h3 hn
            match vs, hw, qs, hlc with
            | [a, b, c], hw, qs, hlc =>
              refine PS.imp (ps_par3 (pos := pos) S.cal.calm S.nN (by rw [S.eN]; exact h1.1.1.1) (by rw [S.eN]; exact h1.1.2.1) (by rw [S.eN]; exact h1.2.1) hij hil hjl (by rw [S.eS]; exact lk_local hx) (by rw [S.eS]; exact lk_local hy) (by rw [S.eS]; exact lk_local hz) (qs.pa F) hw) fun D σ H q => ?_
              obtain ⟨r, env, st, R, E, q⟩ := par_read q
              refine ⟨r, env, st, R, E, ?_⟩
              cases k1 : evEs (g.ctx n) es env st with
              | bad => rw [k1] at q; exact q
              | exc => rw [k1] at q; exact q
              | ok ps st1 =>
                rw [k1] at q
                intro vs H1 r1 A1 R1 hv
                obtain ⟨r2, st2, env2, ps2, env3, R2, E2, hv2, e2, q⟩ := q vs H1 r1 A1 R1 hv
                match ps2, e2, hv2 with
                | [z1, z2, z3], e2, .cons (v := v1) a1 (.cons (v := v2) a2 (.cons (v := v3) a3 .nil)) =>
                  cases e2
                  exact ⟨v1, v2, v3, rfl, q _ (((E2.set i a1).set j a2).set l a3)⟩
            | [], _, _, _ => simp [swB] at h3
            | [_], _, _, _ => simp [swB] at h3
            | [_, _], _, _, _ => simp [swB] at h3
            | _ :: _ :: _ :: _ :: _, _, _, _ => simp [swB] at h3
          · cases h4
  | .asg (.sub o i) e, X, N, sc, so, S, hk, s, h, F => by
    cases s <;> first | (cases h; done) | skip
    rename_i tgs ee pos
    match tgs, h with
    | [tg], h =>
      cases tg <;> first | (cases h; done) | skip
      rename_i eo ei tp
      have h : (okS ei && !isLC ee && chkE g N sc o eo && chkE g N sc i ei && chkE g N sc e ee) = true := h
      simp only [Bool.and_eq_true, Bool.not_eq_true'] at h
      obtain ⟨⟨⟨⟨h1, h2⟩, h3⟩, h4⟩, h5⟩ := h
      have hs : swapsWithSole [.Subscript eo ei tp] ee pos.line X.env = pure false := sole_eq.trans (okS_sw (chk_okS h5) h2 _ _ _)
      exact PS.imp (ps_asg (snd_E e S h5 F).1 (pg_sub (snd_E o S h3 F).1 (snd_E i S h4 F).1 (sto_loc (F := F)) (fun v => okS_asg h1 _ _ _ _)) hs (sw_sub _ _)) fun D σ H q => sub_read q
    | [], h => cases h
    | a :: _ :: _, h => cases a <;> cases h
  | .aug i o e, X, N, sc, so, S, hk, s, h, F => by
    cases s <;> first | (cases h; done) | skip
    rename_i tg op ee pos
    cases tg <;> first | (cases h; done) | skip
    · rename_i x px
      have h : (decide (op = opB o) && chkP N so (.n i) (.Name x px) && chkE g N sc e ee) = true := h
      simp only [Bool.and_eq_true, decide_eq_true_eq] at h
      obtain ⟨⟨rfl, h1⟩, h2⟩ := h
      obtain ⟨hi, hl, hf⟩ := S.at (i := i) (x := x) h1
      exact PS.imp (ps_aug S.nN hi hl (snd_E e S h2 F).1 (ip_aug (F := F) o) hf) fun D σ H q => aug_read q
  | .augS a i o e, X, N, sc, so, S, hk, s, h, F => by
    cases s <;> first | (cases h; done) | skip
    rename_i tg op ee pos
    cases tg <;> first | (cases h; done) | skip
    rename_i eo ei tp
    have h : (decide (op = opB o) && okS ei && chkE g N sc a eo && chkE g N sc i ei && chkE g N sc e ee) = true := h
    simp only [Bool.and_eq_true, decide_eq_true_eq] at h
    obtain ⟨⟨⟨⟨rfl, h1⟩, h2⟩, h3⟩, h4⟩ := h
    exact PS.imp (ps_augS (snd_E a S h2 F).1 (snd_E i S h3 F).1 (get_loc (F := F)) (snd_E e S h4 F).1 (ip_aug (F := F) o) (sto_loc (F := F)) (fun _ _ _ => okS_aug h1 _ _ _)) fun D σ H q => augS_read q
  | .iff c a b, X, N, sc, so, S, hk, s, h, F => by
    cases s <;> first | (cases h; done) | skip
    rename_i ec as bs pos
    have h : (chkE g N sc c ec && chkSs g N sc so a as && chkSs g N sc so b bs) = true := h
    simp only [Bool.and_eq_true] at h
    exact PS.imp (ps_if (snd_E c S h.1.1 F).2 (snd_Ss a S hk h.1.2 F) (snd_Ss b S hk h.2 F)) fun D σ H q => if_read q
  | .fr p it b, X, N, sc, so, S, hk, s, h, F => by
    cases s <;> first | (cases h; done) | skip
    rename_i tg iter bs els pos
    match els, h with
    | [], h =>
      have h : (chkI g N sc it iter && okS iter && (!needsT it || isTgT tg) && chkP N so p tg && chkSs g N sc so b bs) = true := h
      simp only [Bool.and_eq_true] at h
      obtain ⟨⟨⟨⟨h1, h2⟩, h3⟩, h4⟩, h5⟩ := h
      exact PS.imp (ps_for S.noexc S.cal.calm (snd_I it S h1 (fun z => by rw [z] at h3; simpa using h3) F) (pg_I S F p tg h4).1 (snd_Ss b S hk h5 F) (fun x => okS_set h2 _ _)) fun D σ H q => for_read q
    | _ :: _, h => cases h
  | .wh c b, X, N, sc, so, S, hk, s, h, F => by
    cases s <;> first | (cases h; done) | skip
    rename_i ec bs els pos
    match els, h with
    | [], h =>
      have h : (chkE g N sc c ec && chkSs g N sc so b bs) = true := h
      simp only [Bool.and_eq_true] at h
      exact PS.imp (ps_while S.noexc (snd_E c S h.1 F).2 (snd_Ss b S hk h.2 F)) fun D σ H q => while_read q
    | _ :: _, h => cases h
  | .ret e, X, N, sc, so, S, hk, s, h, F => by
    cases s <;> first | (cases h; done) | skip
    rename_i oe pos
    match oe, h with
    | some ee, h => exact PS.imp (ps_ret (snd_E e S h F).1) fun D σ H q => ret_read q
    | none, h => cases h
  | .retn, X, N, sc, so, S, hk, s, h, F => by
    cases s <;> first | (cases h; done) | skip
    rename_i oe pos
    match oe, h with
    | none, h =>
      refine PS.imp ps_retN fun D σ H q => ?_
      obtain ⟨r, env, st, R, E, q⟩ := q
      exact q .non H r .refl R .non
    | some _, h => cases h
  | .brk, X, N, sc, so, S, hk, s, h, F => by
    cases s <;> first | (cases h; done) | skip
    refine PS.imp ps_break fun D σ H q => ?_
    obtain ⟨r, env, st, R, E, q⟩ := q
    exact q σ H r .refl R E
  | .cont, X, N, sc, so, S, hk, s, h, F => by
    cases s <;> first | (cases h; done) | skip
    refine PS.imp ps_continue fun D σ H q => ?_
    obtain ⟨r, env, st, R, E, q⟩ := q
    exact q σ H r .refl R E
  | .pass, X, N, sc, so, S, hk, s, h, F => by
    cases s <;> first | (cases h; done) | skip
    refine PS.imp ps_pass fun D σ H q => ?_
    obtain ⟨r, env, st, R, E, q⟩ := q
    exact q σ H r .refl R E
  | .nev, X, N, sc, so, S, hk, s, h, F => by
    refine PS.imp ps_never fun D σ H q => ?_
    obtain ⟨r, env, st, R, E, q⟩ := q
    exact q
theorem snd_Ss : ∀ (b : Sxs) {X : Cx} {N : List Str} {sc so : Scope} (S : Std X g n N sc so) (hk : sc.kind = .function) {ss : List Stmt}, chkSs g N sc so b ss = true → ∀ F, PSs X ss (tIS X.K F (evSs (g.ctx n) b))
  | .nil, X, N, sc, so, S, hk, ss, h, F => by
    cases ss with
    | cons a b => cases h
    | nil =>
      refine PSs.imp pss_nil fun D σ H q => ?_
      obtain ⟨r, env, st, R, E, q⟩ := q
      exact q σ H r .refl R E
  | .cons s r, X, N, sc, so, S, hk, ss, h, F => by
    cases ss with
    | nil => cases h
    | cons a b =>
      have h : (chkS g N sc so s a && chkSs g N sc so r b) = true := h
      simp only [Bool.and_eq_true] at h
      exact PSs.imp (pss_cons (snd_S s S hk h.1 F) (snd_Ss r S hk h.2 F)) fun D σ H q => seq_read q
end
end
end L2.Iv

/-! IvL: a def of the language keeps its promise. Own work. -/
namespace L2.Iv
open PySem PySem.Spec PyProof.Rows

/-! ### the lists that a callee is handed -/
theorem locs_nd : ∀ args : List PV, (locs args).Nodup
  | [] => .nil
  | .loc i :: r => by
    unfold locs
    split
    · exact locs_nd r
    · rename_i h
      exact List.nodup_cons.mpr ⟨h, locs_nd r⟩
  | .non :: r => locs_nd r
  | .bl _ :: r => locs_nd r
  | .int _ :: r => locs_nd r
  | .str _ :: r => locs_nd r
  | .tup _ :: r => locs_nd r
  | .lsv _ :: r => locs_nd r
theorem locs_mem {i : Nat} : ∀ {args : List PV}, PV.loc i ∈ args → i ∈ locs args
  | .loc j :: r, h => by
    unfold locs
    rcases List.mem_cons.mp h with e | h
    · cases e
      split
      · assumption
      · exact List.mem_cons_self
    · split
      · exact locs_mem h
      · exact List.mem_cons_of_mem _ (locs_mem h)
  | .non :: r, h => by rcases List.mem_cons.mp h with e | h; cases e; exact (locs_mem h : i ∈ locs r)
  | .bl _ :: r, h => by rcases List.mem_cons.mp h with e | h; cases e; exact (locs_mem h : i ∈ locs r)
  | .int _ :: r, h => by rcases List.mem_cons.mp h with e | h; cases e; exact (locs_mem h : i ∈ locs r)
  | .str _ :: r, h => by rcases List.mem_cons.mp h with e | h; cases e; exact (locs_mem h : i ∈ locs r)
  | .tup _ :: r, h => by rcases List.mem_cons.mp h with e | h; cases e; exact (locs_mem h : i ∈ locs r)
  | .lsv _ :: r, h => by rcases List.mem_cons.mp h with e | h; cases e; exact (locs_mem h : i ∈ locs r)
theorem sub_facts {st : Store} : ∀ {ls : List Nat} {sub : Store}, subSt st ls = some sub → sub.length = ls.length ∧ ∀ (k i : Nat), ls[k]? = some i → ∃ xs, st[i]? = some xs ∧ sub[k]? = some xs ∧ freeAll xs = true
  | [], sub, h => by cases h; exact ⟨rfl, fun k i e => by simp at e⟩
  | i :: r, sub, h => by
    unfold subSt at h
    split at h
    · rename_i xs hx
      split at h
      · rename_i hf
        cases hr : subSt st r with
        | none => rw [hr] at h; cases h
        | some s2 =>
          rw [hr] at h
          cases h
          obtain ⟨h1, h2⟩ := sub_facts hr
          refine ⟨by simp [h1], fun k j e => ?_⟩
          cases k with
          | zero => simp at e; subst e; exact ⟨xs, hx, rfl, hf⟩
          | succ k => simpa using h2 k j (by simpa using e)
      · cases h
    · cases h
theorem put_len {st : Store} : ∀ (ls : List Nat) (s : Store), (putSt st ls s).length = st.length
  | [], s => by cases s <;> rfl
  | i :: r, [] => rfl
  | i :: r, xs :: s => by simp [putSt, put_len r s]
theorem put_out {st : Store} {i : Nat} : ∀ (ls : List Nat) (s : Store), i ∉ ls → (putSt st ls s)[i]? = st[i]?
  | [], s, _ => by cases s <;> rfl
  | j :: r, [], _ => rfl
  | j :: r, xs :: s, h => by
    have h1 : i ≠ j := fun e => h (e ▸ List.mem_cons_self)
    unfold putSt
    rw [List.getElem?_set_ne (Ne.symm h1)]
    exact put_out r s fun z => h (List.mem_cons_of_mem _ z)
theorem put_in {st : Store} {i : Nat} : ∀ (ls : List Nat) (s : Store) (k : Nat), ls.Nodup → ls.length = s.length → ls[k]? = some i → i < st.length → (putSt st ls s)[i]? = s[k]?
  | [], s, k, _, _, e, _ => by simp at e
  | j :: r, [], k, _, hl, _, _ => by simp at hl
  | j :: r, xs :: s, 0, nd, hl, e, hi => by
    simp at e; subst e
    unfold putSt
    rw [List.getElem?_set_self (by rw [put_len]; exact hi)]
    rfl
  | j :: r, xs :: s, k + 1, nd, hl, e, hi => by
    have e : r[k]? = some i := by simpa using e
    have h1 : i ≠ j := by
      rintro rfl
      exact (List.nodup_cons.mp nd).1 (List.mem_of_getElem? e)
    unfold putSt
    rw [List.getElem?_set_ne (Ne.symm h1)]
    exact put_in r s k (List.nodup_cons.mp nd).2 (by simpa using hl) e hi

/-! ### into the callee, and back -/
def rsOf (r : List Addr) (ls : List Nat) : List Addr := ls.map fun i => r.getD i 0
def shutOf (F r rs : List Addr) : List Addr := F ++ r.filter fun a => decide (a ∉ rs)
section
variable {K : PySem.W.Frag} {F : List Addr} {H H' : Hp} {r r' : List Addr} {st s2 : Store} {ls : List Nat} {sub : Store} {v : V} {p : PV} {vs : List V} {ps : List PV}
theorem rs_get (h : ∀ i ∈ ls, i < r.length) {k i : Nat} (e : ls[k]? = some i) : (rsOf r ls)[k]? = r[i]? := by
  unfold rsOf
  rw [List.getElem?_map, e]
  have := h i (List.mem_of_getElem? e)
  simp [List.getD, List.getElem?_eq_getElem this]
theorem rs_mem (h : ∀ i ∈ ls, i < r.length) {a : Addr} (m : a ∈ rsOf r ls) : ∃ (k i : Nat), ls[k]? = some i ∧ r[i]? = some a ∧ (rsOf r ls)[k]? = some a := by
  obtain ⟨k, e⟩ := List.mem_iff_getElem?.mp m
  have e0 := e
  unfold rsOf at e
  rw [List.getElem?_map] at e
  cases hk : ls[k]? with
  | none => rw [hk] at e; cases e
  | some i =>
    refine ⟨k, i, hk, ?_, e0⟩
    rw [← rs_get h hk]
    exact e0
theorem rs_sub (h : ∀ i ∈ ls, i < r.length) {a : Addr} (m : a ∈ rsOf r ls) : a ∈ r := by
  obtain ⟨k, i, _, e, _⟩ := rs_mem h m
  exact List.mem_of_getElem? e
theorem shut_cov {rs : List Addr} {b : Addr} (h : b ∈ r ∨ b ∈ F) : b ∈ rs ∨ b ∈ shutOf F r rs := by
  by_cases hb : b ∈ rs
  · exact .inl hb
  · rcases h with h | h
    · exact .inr (List.mem_append_right _ (List.mem_filter.mpr ⟨h, by simpa using hb⟩))
    · exact .inr (List.mem_append_left _ h)
theorem shut_sub {rs : List Addr} {b : Addr} (h : b ∈ shutOf F r rs) : b ∈ r ∨ b ∈ F := by
  rcases List.mem_append.mp h with h | h
  · exact .inr h
  · exact .inl (List.mem_filter.mp h).1
theorem ls_lt (R : Rel K F H r st) (hs : subSt st ls = some sub) : ∀ i ∈ ls, i < r.length := fun i hi => by
  obtain ⟨k, e⟩ := List.mem_iff_getElem?.mp hi
  obtain ⟨xs, h1, _⟩ := (sub_facts hs).2 k i e
  rw [R.len]
  exact (List.getElem?_eq_some_iff.mp h1).1
theorem rs_nd (R : Rel K F H r st) (hs : subSt st ls = some sub) (nd : ls.Nodup) : (rsOf r ls).Nodup := by
  have hlt := ls_lt R hs
  unfold rsOf List.Nodup
  rw [List.pairwise_map]
  refine List.Pairwise.imp_of_mem (fun {a b} ha hb hne e => hne ?_) nd
  have ga : r[a]? = some (r.getD a 0) := by simp [List.getD, List.getElem?_eq_getElem (hlt a ha)]
  have gb : r[b]? = some (r.getD b 0) := by simp [List.getD, List.getElem?_eq_getElem (hlt b hb)]
  rw [← e] at gb
  exact nd_ix R.nd ga gb
theorem Rel.enter (R : Rel K F H r st) (hs : subSt st ls = some sub) (nd : ls.Nodup) : Rel K (shutOf F r (rsOf r ls)) H (rsOf r ls) sub := by
  have hlt := ls_lt R hs
  obtain ⟨hl, hg⟩ := sub_facts hs
  refine ⟨by simp [rsOf, hl], rs_nd R hs nd, fun k a xs e1 e2 => ?_, fun a ha hf => ?_, fun a ha => ?_⟩
  · have hk : k < ls.length := by
      have := (List.getElem?_eq_some_iff.mp e2).1
      omega
    have e3 := List.getElem?_eq_getElem hk
    obtain ⟨ys, h1, h2, h3⟩ := hg k _ e3
    rw [e2] at h2; cases h2
    rw [rs_get hlt e3] at e1
    obtain ⟨vs, q1, q2⟩ := R.cells _ a xs e1 h1
    exact ⟨vs, q1, Reps.back (fun b hb => .inl (rs_sub hlt hb)) (fun b hb => shut_sub hb) q2 h3⟩
  · rcases List.mem_append.mp hf with h | h
    · exact R.apart a (rs_sub hlt ha) h
    · exact absurd ha (by simpa using (List.mem_filter.mp h).2)
  · rcases shut_sub ha with h | h
    · exact R.isl h
    · exact R.fs a h
theorem ren_free (h : p.free = true) : ren ls p = p := by
  cases p <;> first | rfl | cases h
theorem Reps.enter (R : Rel K F H r st) (hs : subSt st ls = some sub) : ∀ {vs : List V} {ps : List PV}, Reps K F H r vs ps → (∀ i, PV.loc i ∈ ps → i ∈ ls) → ps.all argOk = true → Reps K (shutOf F r (rsOf r ls)) H (rsOf r ls) vs (ps.map (ren ls))
  | _, _, .nil, _, _ => .nil
  | _, _, .cons (d := p) h q, m, ok => by
    simp only [List.all_cons, Bool.and_eq_true] at ok
    have hlt := ls_lt R hs
    refine .cons ?_ (q.enter R hs (fun i hi => m i (List.mem_cons_of_mem _ hi)) ok.2)
    by_cases hf : p.free = true
    · rw [ren_free hf]
      exact h.back (fun b hb => .inl (rs_sub hlt hb)) (fun b hb => shut_sub hb) hf
    · cases h with
      | @loc a i e =>
        have hi : i ∈ ls := m i List.mem_cons_self
        have hx : ls.idxOf i < ls.length := List.idxOf_lt_length_iff.mpr hi
        have e2 : ls[ls.idxOf i]? = some i := by rw [List.getElem?_eq_getElem hx, List.getElem_idxOf]
        exact .loc (by rw [rs_get hlt e2]; exact e)
      | non => exact absurd rfl hf
      | bl => exact absurd rfl hf
      | int => exact absurd rfl hf
      | str => exact absurd rfl hf
      | lsv _ _ => exact absurd ok.1 hf
      | tup _ _ => exact absurd ok.1 hf
/-- behind a call: ex, the new list that may be written (or none) -/
theorem Aft.leave {rs ex : List Addr} (A : Aft rs H r' H') (hsub : ∀ b ∈ rs, b ∈ r) (hex : ∀ b ∈ ex, b ∈ r') : Aft r H (r ++ ex) H' := by
  refine ⟨⟨ex, rfl⟩, fun a o e n => ?_⟩
  obtain ⟨q1, q2⟩ := A.keep a o e fun m => n (hsub a m)
  refine ⟨q1, fun m => ?_⟩
  rcases List.mem_append.mp m with m | m
  · exact n m
  · exact q2 (hex a m)
theorem cells_leave {ex : List Addr} (R : Rel K F H r st) (hs : subSt st ls = some sub) (nd : ls.Nodup) (A : Aft (rsOf r ls) H r' H') (R2 : Rel K (shutOf F r (rsOf r ls)) H' r' s2) (hm : ls.length ≤ s2.length) (hfl : flatSt (s2.take ls.length) = true)
    (hex : ∀ b ∈ ex, b ∈ r') : ∀ (i : Nat) (a : Addr) (xs : List PV), r[i]? = some a → (putSt st ls (s2.take ls.length))[i]? = some xs → ∃ vs, H' a = some (.lst vs) ∧ Reps K F H' (r ++ ex) vs xs := by
  intro i a xs e1 e2
  have hlt := ls_lt R hs
  have AL : Aft r H (r ++ ex) H' := A.leave (fun b hb => rs_sub hlt hb) hex
  have hi : i < st.length := by rw [← R.len]; exact (List.getElem?_eq_some_iff.mp e1).1
  by_cases hin : i ∈ ls
  · obtain ⟨k, ek⟩ := List.mem_iff_getElem?.mp hin
    have hk : k < ls.length := (List.getElem?_eq_some_iff.mp ek).1
    rw [put_in ls _ k nd (by simp [hm]) ek hi] at e2
    have hfx : freeAll xs = true := by
      have := List.all_eq_true.mp hfl xs (List.mem_of_getElem? e2)
      exact this
    rw [List.getElem?_take_of_lt hk] at e2
    have e3 : r'[k]? = some a := A.get (by rw [rs_get hlt ek]; exact e1)
    obtain ⟨vs, q1, q2⟩ := R2.cells k a xs e3 e2
    refine ⟨vs, q1, Reps.back (fun b hb => ?_) (fun b hb => ?_) q2 hfx⟩
    · rcases List.mem_append.mp hb with hb | hb
      · rcases shut_cov (F := F) (rs := rsOf r ls) (.inl hb) with z | z
        · obtain ⟨y, ey⟩ := A.pre
          exact .inl (by rw [ey]; exact List.mem_append_left _ z)
        · exact .inr z
      · exact .inl (hex b hb)
    · exact .inr (List.mem_append_left _ hb)
  · rw [put_out ls _ hin] at e2
    obtain ⟨vs, q1, q2⟩ := R.cells i a xs e1 e2
    have hn : a ∉ rsOf r ls := fun m => by
      obtain ⟨k, j, ek, ej, _⟩ := rs_mem hlt m
      have : i = j := nd_ix R.nd e1 ej
      subst this
      exact hin (List.mem_of_getElem? ek)
    exact ⟨vs, (A.keep a _ q1 hn).1, Reps.aft R AL q2⟩
theorem Rel.leave (R : Rel K F H r st) (hs : subSt st ls = some sub) (nd : ls.Nodup) (A : Aft (rsOf r ls) H r' H') (R2 : Rel K (shutOf F r (rsOf r ls)) H' r' s2) (hm : ls.length ≤ s2.length) (hfl : flatSt (s2.take ls.length) = true) :
    Rel K F H' r (putSt st ls (s2.take ls.length)) := by
  have hlt := ls_lt R hs
  refine ⟨by rw [put_len]; exact R.len, R.nd, fun i a xs e1 e2 => ?_, R.apart, fun a ha => ?_⟩
  · obtain ⟨vs, q1, q2⟩ := cells_leave (ex := []) R hs nd A R2 hm hfl (fun b hb => by simp at hb) i a xs e1 e2
    rw [List.append_nil] at q2
    exact ⟨vs, q1, q2⟩
  · obtain ⟨vs, q⟩ := R.fs a ha
    exact ⟨vs, (A.keep a _ q fun m => R.apart a (rs_sub hlt m) ha).1⟩
/-- a list that the callee made itself is none of ours -/
theorem own_new (R : Rel K F H r st) (hs : subSt st ls = some sub) (A : Aft (rsOf r ls) H r' H') (R2 : Rel K (shutOf F r (rsOf r ls)) H' r' s2) {j : Nat} {a : Addr} (e : r'[j]? = some a) (hj : ls.length ≤ j) : a ∉ r ∧ a ∉ F := by
  have n1 : a ∉ rsOf r ls := fun m => by
    obtain ⟨k, hk⟩ := List.mem_iff_getElem?.mp m
    have e2 : r'[k]? = some a := A.get hk
    have : j = k := nd_ix R2.nd e e2
    have hk2 := (List.getElem?_eq_some_iff.mp hk).1
    simp [rsOf] at hk2
    omega
  have n2 : a ∉ shutOf F r (rsOf r ls) := R2.apart a (List.mem_of_getElem? e)
  refine ⟨fun m => ?_, fun m => ?_⟩
  · rcases shut_cov (F := F) (rs := rsOf r ls) (.inl m) with z | z
    · exact n1 z
    · exact n2 z
  · exact n2 (List.mem_append_left _ m)
theorem Rel.leaveN (R : Rel K F H r st) (hs : subSt st ls = some sub) (nd : ls.Nodup) (A : Aft (rsOf r ls) H r' H') (R2 : Rel K (shutOf F r (rsOf r ls)) H' r' s2) (hm : ls.length ≤ s2.length) (hfl : flatSt (s2.take ls.length) = true)
    {j : Nat} {a : Addr} {xs : List PV} (e : r'[j]? = some a) (hj : ls.length ≤ j) (ex : s2[j]? = some xs) (hx : freeAll xs = true) : Rel K F H' (r ++ [a]) (putSt st ls (s2.take ls.length) ++ [xs]) := by
  have hlt := ls_lt R hs
  obtain ⟨n1, n2⟩ := own_new R hs A R2 e hj
  have R3 := R.leave hs nd A R2 hm hfl
  have hex : ∀ b ∈ [a], b ∈ r' := fun b hb => by rw [List.mem_singleton] at hb; subst hb; exact List.mem_of_getElem? e
  have pl : (putSt st ls (s2.take ls.length)).length = r.length := by rw [put_len, R.len]
  refine ⟨by simp [pl], ?_, fun i b ys e1 e2 => ?_, fun b hb => ?_, R3.fs⟩
  · rw [List.nodup_append]
    refine ⟨R.nd, by simp, fun x hx y hy => ?_⟩
    rw [List.mem_singleton] at hy
    rintro rfl
    exact n1 (hy ▸ hx)
  · by_cases hi : i < r.length
    · rw [List.getElem?_append_left hi] at e1
      rw [List.getElem?_append_left (by omega)] at e2
      exact cells_leave R hs nd A R2 hm hfl hex i b ys e1 e2
    · rw [List.getElem?_append_right (by omega)] at e1
      rw [List.getElem?_append_right (by omega)] at e2
      have hz : i - r.length = 0 := by
        have := (List.getElem?_eq_some_iff.mp e1).1
        simp at this; omega
      rw [hz] at e1
      rw [pl, hz] at e2
      simp at e1 e2
      subst e1; subst e2
      obtain ⟨vs, q1, q2⟩ := R2.cells j a xs e ex
      refine ⟨vs, q1, Reps.back (fun b hb => ?_) (fun b hb => ?_) q2 hx⟩
      · rcases List.mem_append.mp hb with hb | hb
        · rcases shut_cov (F := F) (rs := rsOf r ls) (.inl hb) with z | z
          · obtain ⟨y, ey⟩ := A.pre
            exact .inl (by rw [ey]; exact List.mem_append_left _ z)
          · exact .inr z
        · exact .inl (hex b hb)
      · exact .inr (List.mem_append_left _ hb)
  · rcases List.mem_append.mp hb with hb | hb
    · exact R.apart b hb
    · rw [List.mem_singleton] at hb; subst hb; exact n2
/-- the value handed back -/
theorem frz_back (R : Rel K F H r st) (hs : subSt st ls = some sub) (A : Aft (rsOf r ls) H r' H') (R2 : Rel K (shutOf F r (rsOf r ls)) H' r' s2) :
    ∀ (k : Nat), (∀ {v : V} {p q : PV}, Rep K (shutOf F r (rsOf r ls)) H' r' v p → frz ls.length s2 k p = some q → Rep K F H' r v q) ∧
      ∀ {vs : List V} {ps qs : List PV}, Reps K (shutOf F r (rsOf r ls)) H' r' vs ps → ps.mapM (frz ls.length s2 k) = some qs → Reps K F H' r vs qs := by
  have hlt := ls_lt R hs
  have cov : ∀ b, b ∈ r → (b ∈ r' ∨ b ∈ shutOf F r (rsOf r ls)) := fun b hb => by
    rcases shut_cov (F := F) (rs := rsOf r ls) (.inl hb) with z | z
    · obtain ⟨y, ey⟩ := A.pre
      exact .inl (by rw [ey]; exact List.mem_append_left _ z)
    · exact .inr z
  have covF : ∀ b, b ∈ F → (b ∈ r' ∨ b ∈ shutOf F r (rsOf r ls)) := fun b hb => .inr (List.mem_append_left _ hb)
  have many : ∀ k, (∀ {v : V} {p q : PV}, Rep K (shutOf F r (rsOf r ls)) H' r' v p → frz ls.length s2 k p = some q → Rep K F H' r v q) →
      ∀ {ps : List PV} {vs : List V} {qs : List PV}, Reps K (shutOf F r (rsOf r ls)) H' r' vs ps → ps.mapM (frz ls.length s2 k) = some qs → Reps K F H' r vs qs := by
    intro k one ps
    induction ps with
    | nil =>
      intro vs qs h e
      cases h
      cases e
      exact .nil
    | cons p ps ih =>
      intro vs qs h e
      cases h with
      | cons h1 h2 =>
        rw [List.mapM_cons] at e
        cases e1 : frz ls.length s2 k p with
        | none => rw [e1] at e; cases e
        | some q =>
          rw [e1] at e
          cases e2 : ps.mapM (frz ls.length s2 k) with
          | none => rw [e2] at e; cases e
          | some qs2 =>
            rw [e2] at e
            cases e
            exact .cons (one h1 e1) (ih h2 e2)
  intro k
  induction k with
  | zero =>
    have one : ∀ {v : V} {p q : PV}, Rep K (shutOf F r (rsOf r ls)) H' r' v p → frz ls.length s2 0 p = some q → Rep K F H' r v q := by
      intro v p q h e
      unfold frz at e
      split at e
      · rename_i hf
        cases e
        exact h.back cov covF hf
      · cases e
    exact ⟨one, many 0 one⟩
  | succ k ih =>
    have one : ∀ {v : V} {p q : PV}, Rep K (shutOf F r (rsOf r ls)) H' r' v p → frz ls.length s2 (k + 1) p = some q → Rep K F H' r v q := by
      intro v p q h e
      unfold frz at e
      split at e
      · rename_i hf
        cases e
        exact h.back cov covF hf
      · cases h with
        | non => cases e
        | bl => cases e
        | int => cases e
        | str => cases e
        | @loc a i hi =>
          dsimp only at e
          split at e
          · cases e
          · rename_i hj
            split at e
            · rename_i xs hx
              cases e2 : xs.mapM (frz ls.length s2 k) with
              | none => rw [e2] at e; cases e
              | some ys =>
                rw [e2] at e
                cases e
                obtain ⟨vs, q1, q2⟩ := R2.cells i a xs hi hx
                obtain ⟨n1, n2⟩ := own_new R hs A R2 hi (by omega)
                exact .lsv (.inl ⟨q1, n1, n2⟩) (ih.2 q2 e2)
            · cases e
        | @tup a us ds hq hr =>
          dsimp only at e
          cases e2 : ds.mapM (frz ls.length s2 k) with
          | none => rw [e2] at e; cases e
          | some ys =>
            rw [e2] at e
            cases e
            exact .tup hq (ih.2 hr e2)
        | @lsv a us ds hq hr =>
          dsimp only at e
          cases e2 : ds.mapM (frz ls.length s2 k) with
          | none => rw [e2] at e; cases e
          | some ys =>
            rw [e2] at e
            cases e
            exact .lsv (hq.back cov covF) (ih.2 hr e2)
    exact ⟨one, many (k + 1) one⟩
end
end L2.Iv

/-! IvM: every def of a program of the language keeps its promise; the law's own call. Own work. -/
namespace L2.Iv
open PySem PySem.Spec PyProof.Rows

section
variable {P : Program} {w : World} {K : PySem.W.Frag} {mg : Str → Option Value} {base : Heap} {g : Sg}
theorem env_enter {F : List Addr} {H : Hp} {r : List Addr} {N : List Str} : ∀ {vs : List V} {ps : List PV}, Reps K F H r vs ps → EnvRel K F H r (ps.map some ++ List.replicate (N.length - ps.length) none) (start N vs) := by
  intro vs ps h
  have hl := h.length
  refine ⟨by simp [start, hl], fun i p e => ?_⟩
  by_cases hi : i < ps.length
  · rw [List.getElem?_append_left (by simpa using hi), List.getElem?_map] at e
    cases e2 : ps[i]? with
    | none => rw [e2] at e; cases e
    | some q =>
      rw [e2] at e
      cases e
      obtain ⟨v, h1, h2⟩ := h.get2 e2
      refine ⟨v, ?_, h2⟩
      unfold start
      rw [List.getElem?_append_left (by simp; omega), List.getElem?_map, h1]
      rfl
  · rw [List.getElem?_append_right (by simpa using hi), List.getElem?_replicate] at e
    split at e <;> cases e
theorem callF_succ (tb : List (Str × Fn)) (gl : Str → Option PV) (n : Nat) (f : Str) (args : List PV) (st : Store) : callF tb gl (n + 1) f args st = (match tb.lookup f with
    | none => .bad
    | some fn => if args.length = fn.ps.length ∧ args.all argOk = true then match subSt st (locs args) with
        | some sub => match runB ⟨callF tb gl n, gl⟩ fn (args.map (ren (locs args))) sub with
          | .ok v s2 => backV fn.mt (locs args) st v s2
          | _ => .bad
        | none => .bad
      else .bad) := rfl
/-- what is promised of a def's call, its body once told -/
theorem call_post {F : List Addr} {H : Hp} {r : List Addr} {st : Store} {Q : VK} {n : Nat} {f : Str} {fn : Fn} {vs : List V} {ps : List PV} (hl : g.tb.lookup f = some fn) (R : Rel K F H r st) (Vh : Reps K F H r vs ps) (h : Post K F r H Q ((g.ctx (n + 1)).fn f ps st)) :
    vs.length = fn.ps.length ∧ ∃ F', tIS K F' (evSs (g.ctx n) fn.body) { nx := fun _ H' => Q .non H', rt := Q } (start fn.N vs) H := by
  have h : Post K F r H Q (callF g.tb (fun x => g.gl.lookup x) (n + 1) f ps st) := h
  rw [callF_succ, hl] at h
  dsimp only at h
  split at h
  · rename_i hc
    cases hs : subSt st (locs ps) with
    | none => rw [hs] at h; exact h.elim
    | some sub =>
      rw [hs] at h
      dsimp only at h
      refine ⟨by rw [Vh.length]; exact hc.1, shutOf F r (rsOf r (locs ps)), rsOf r (locs ps), _, sub, R.enter hs (locs_nd ps), env_enter (Vh.enter R hs (fun i hi => locs_mem hi) hc.2), ?_⟩
      have hrun : runB ⟨callF g.tb (fun x => g.gl.lookup x) n, fun x => g.gl.lookup x⟩ fn (ps.map (ren (locs ps))) sub = (evSs (g.ctx n) fn.body ((ps.map (ren (locs ps))).map some ++ List.replicate (fn.N.length - (ps.map (ren (locs ps))).length) none) sub).bind fun f st1 => match f with
        | .rt v => .ok v st1
        | .nx _ => .ok .non st1
        | _ => .bad := rfl
      rw [hrun] at h
      -- the end of the callee's body
      have fin : ∀ {p : PV} {s2 : Store} {v : V} {H' : Hp} {r' : List Addr}, Post K F r H Q (backV fn.mt (locs ps) st p s2) → Aft (rsOf r (locs ps)) H r' H' → Rel K (shutOf F r (rsOf r (locs ps))) H' r' s2 → Rep K (shutOf F r (rsOf r (locs ps))) H' r' v p → Q v H' := by
        intro p s2 v H' r' h A R2 hp
        unfold backV at h
        dsimp only at h
        split at h
        · rename_i hm
          have hsub : ∀ b ∈ rsOf r (locs ps), b ∈ r := fun b hb => rs_sub (ls_lt R hs) hb
          split at h
          · cases hp with
            | @loc a j e =>
              dsimp only at h
              split at h
              · rename_i xs hx
                split at h
                · rename_i hj
                  refine h _ H' (r ++ [a]) (A.leave hsub fun b hb => ?_) (R.leaveN hs (locs_nd ps) A R2 hm.1 hm.2 e hj.1 hx hj.2) (.loc ?_)
                  · rw [List.mem_singleton] at hb; subst hb; exact List.mem_of_getElem? e
                  · rw [put_len, ← R.len]
                    simp
                · exact h.elim
              · exact h.elim
            | _ => exact h.elim
          · split at h
            · rename_i v' hv
              have A0 : Aft r H r H' := by
                have := A.leave (ex := []) hsub fun b hb => by simp at hb
                rw [List.append_nil] at this
                exact this
              exact h v H' r A0 (R.leave hs (locs_nd ps) A R2 hm.1 hm.2) ((frz_back R hs A R2 64).1 hp hv)
            · exact h.elim
        · exact h.elim
      cases hb : evSs (g.ctx n) fn.body ((ps.map (ren (locs ps))).map some ++ List.replicate (fn.N.length - (ps.map (ren (locs ps))).length) none) sub with
      | bad => rw [hb] at h; exact h.elim
      | exc => rw [hb] at h; exact h.elim
      | ok fl s2 =>
        rw [hb] at h
        simp only [bind_ok] at h
        cases fl with
        | rt p => exact fun v H' r' A R2 hp => fin h A R2 hp
        | nx e => exact fun σ' H' r' A R2 _ => fin h A R2 .non
        | bk e => exact h.elim
        | ct e => exact h.elim
  · exact h.elim

/-- a def of the text: its promise for n + 1 calls, from the others' for n -/
theorem fn_keeps {n : Nat} {f qual : Str} {fn : Fn} {st : Stmt} {a : Addr} {fd : FuncData} (L : Link P w K mg base g n) (hl : g.tb.lookup f = some fn) (D : Fun K f qual st a fd) (S : FnScope fn.N fn.ps (defScope st)) (c : chkSs g fn.N (defScope st) (defScope st) fn.body (defBody st) = true) :
    FnG P w K mg base (n + 1) a fd fn.ps (spI K g (n + 1) f) := by
  obtain ⟨oc, od, kV, doc, pm, an, cdv, ct, osl, rfl, lk, hcd⟩ := D.ex
  refine ⟨fun vs H Q ⟨F, r, st, ps, R, Vh, h⟩ => (call_post hl R Vh h).1, ?_⟩
  intro A outer s H args us vs Q hr hg e0 hb rv ⟨F, r, st1, ps, R, Vh, h⟩
  obtain ⟨hlen, F', hq⟩ := call_post hl R Vh h
  have hin : K.In s.heap := e0.mod.kin.keeps fun b o e => (e0.bs b o e).1
  have params : ∀ y ∈ fn.ps.zip us, (defScope st).names.lookup y.1 = some .local ∨ ((defScope st).names.lookup y.1 = some .cell ∧ ((cellsFrom (s.heap.objs.size + 1) (defScope st).names []).lookup y.1).isSome = true) := fun y hy => by
    rcases S.par y.1 (List.of_mem_zip hy).1 with q | q
    · exact .inl q
    · exact .inr ⟨q, PySem.W.cellsFrom_some _ _ _ (.inl q)⟩
  refine codeAny_call_function hr.depth (hin _ _ lk) rfl S.co S.gen rfl (PySem.W.codeRec_of hin hcd) (hb _ _ _ _ ?_)
  refine wpAny_newFunctionEnv_cells S.kind params fun env he s1 x => ?_
  subst he
  refine ⟨Heap.NoLimit.keeps (e0.mod.nolimit.keeps fun b o e => (e0.bs b o e).1) x.toInCall.keep, codeAny_func ?_⟩
  let X := (cxOf CX0 P w K mg base fn.N qual (defScope st) a cdv A outer s H E0).nox
  have Sd : Std X g n fn.N (defScope st) (defScope st) := ⟨⟨hr.deeper _, hg, rfl⟩, L, rfl, S.nd, rfl, fun x hx => ⟨hx, .inl rfl⟩, rfl⟩
  have I : Inv X [] (start fn.N vs) H s1 := (inv_start S hr.hd e0 hlen rv x).wish _
  have body := (snd_Ss fn.body Sd S.kind c F').run [] s1 (start fn.N vs) H _ I hq
  refine wpAny_mono body (fun fl s' hs => ?_) fun e s' hs => False.elim hs
  have done : ∀ {σ' : St} {H' : Hp} {v : V} {u : Value}, Inv X [] σ' H' s' → RelV v u → Q v H' → CE outer P w H s Q u s' := fun {σ' H' v u} J rv q => ⟨v, H', J.os, J.bare, J.base, J.hok, rv, q⟩
  cases fl with
  | next => obtain ⟨σ', H', J, q⟩ := hs; exact done (v := V.non) (u := Value.none) J rfl q
  | ret u => obtain ⟨v, σ', H', J, rv, q⟩ := hs; exact done J rv q
  | brk => obtain ⟨_, _, _, q⟩ := hs; exact False.elim q
  | cont => obtain ⟨_, _, _, q⟩ := hs; exact False.elim q

/-! ### the whole program -/
/-- a def where the top has put it -/
structure DefAt (K : PySem.W.Frag) (mg : Str → Option Value) (g : Sg) (f : Str) (fn : Fn) (a : Addr) (fd : FuncData) : Prop where
  mgf : mg f = some (.ref a)
  fun' : ∃ st qual, Fun K f qual st a fd ∧ FnScope fn.N fn.ps (defScope st) ∧ chkSs g fn.N (defScope st) (defScope st) fn.body (defBody st) = true
  bd : ∀ (s : Shared) (us : List Value), us.length = fn.ps.length → BindsTo s fd ⟨us, []⟩ (fn.ps.zip us)
  kw : ∀ ks np perm, (f, ks, np, perm) ∈ g.kcs → ∀ (s : Shared) (us ws : List Value), us.length = np → ws.length = ks.length → BindsTo s fd ⟨us, ks.zip ws⟩ (fn.ps.zip (perm.map fun i => (us ++ ws).getD i .none))
structure Prg (K : PySem.W.Frag) (mg : Str → Option Value) (g : Sg) : Prop where
  fn : ∀ f fn, g.tb.lookup f = some fn → ∃ a fd, DefAt K mg g f fn a fd
  gl : ∀ x p, g.gl.lookup x = some p → ∃ u v, mg x = some u ∧ RelV v u ∧ ∀ F H r, Rep K F H r v p
  bs : ∀ x, x ∈ g.bs → mg x = none
theorem Prg.link (G : Prg K mg g) : ∀ n : Nat, Link P w K mg base g n
  | 0 => by
    refine ⟨fun f fn hl => ?_, G.gl, G.bs⟩
    obtain ⟨a, fd, D⟩ := G.fn f fn hl
    obtain ⟨st, qual, h1, h2, h3⟩ := D.fun'
    have no : ∀ {vs : List V} {H : Hp} {Q : VK}, spI K g 0 f vs H Q → False := fun ⟨F, r, st, ps, R, Vh, h⟩ => h
    exact ⟨a, fd, D.mgf, h1.kp, ⟨fun vs H Q h => (no h).elim, fun _ _ _ _ _ _ _ _ _ _ _ _ _ h => (no h).elim⟩, D.bd, D.kw⟩
  | n + 1 => by
    refine ⟨fun f fn hl => ?_, G.gl, G.bs⟩
    obtain ⟨a, fd, D⟩ := G.fn f fn hl
    obtain ⟨st, qual, h1, h2, h3⟩ := D.fun'
    exact ⟨a, fd, D.mgf, h1.kp, fn_keeps (G.link n) hl h1 h2 h3, D.bd, D.kw⟩
end

/-! ### the law's own call -/
theorem reps_of_ints {K : PySem.W.Frag} {F : List Addr} {H : Hp} {r : List Addr} : ∀ ns : List Int, Reps K F H r (ns.map V.int) (ns.map PV.int)
  | [] => .nil
  | n :: ns => .cons (.int n) (reps_of_ints ns)
/-- the abstract heap in which the script alone may be tracked, as a thing that nobody writes -/
def scriptH (own : Bool) (a : Addr) (o : Obj) (xs : List V) : Hp := fun b => if own = false ∧ b = a then some (.frz o (.lst xs)) else none
/-- the law holds of every script if its mirror answers so -/
theorem law_true {l : PySem.W.OpenLaw} {k : Nat} {q : Program} {loose : List Str} {XP : (Str → Option Value) → Heap → Prop} {YP : World → Heap → Prop} {d : DefRec} {K : Params → PySem.W.Frag} {g : Sg} {fn : Fn} {x : Str}
    (hn : l.most = some 63) (hdf : d.params.defaults = []) (hr : Room k callerA) (hY : ∀ (w : World) (h : Heap), YP w h → (K w.params).In h)
    (hl : g.tb.lookup d.name = some fn) (hps : fn.ps = [x])
    (F : ∀ (w : World) (mg : Str → Option Value) (fa : Addr) (h : Heap), (K w.params).In h → h.Ns mainGlobals mg → mg d.name = some (.ref fa) → Prg (K w.params) mg g)
    (A : ∀ ns : List Int, ns.length ≤ 63 → ∃ st, callF g.tb (fun y => g.gl.lookup y) k d.name [.lsv (ns.map PV.int)] [] = .ok (.bl true) st) :
    PySem.W.WalkO q loose XP YP l.row.toRowW d [] (fun f vs => PySem.call f vs) := by
  refine Att.attach_call hn hdf fun w s₀ s₁ mg mb fa o pm cd doc a vs ns G Y ho hd hcd hmg hobj hints hlen hg => ?_
  have hK := hY w _ Y
  have Pr := F w mg fa _ hK G.T.g hmg
  have rv := vals_ints hints
  have hsz : ns.length ≤ sizeLine := Nat.le_trans hlen (by decide)
  obtain ⟨own, how⟩ : ∃ own : Bool, (own = true ↔ ∃ u, (K w.params).lookup a = some u) := by
    cases e : (K w.params).lookup a with
    | none => exact ⟨false, ⟨fun z => (nomatch z), fun ⟨u, z⟩ => (nomatch z)⟩⟩
    | some u => exact ⟨true, ⟨fun _ => ⟨u, rfl⟩, fun _ => rfl⟩⟩
  generalize hso : ({ cls := .type "list", data := .seq vs.toArray } : Obj) = so at hobj
  generalize hH : scriptH own a so (ns.map V.int) = H
  have onlyA : ∀ b, H b ≠ none → own = false ∧ b = a := fun b hb => by
    rw [← hH] at hb
    unfold scriptH at hb
    by_cases c : own = false ∧ b = a
    · exact c
    · rw [if_neg c] at hb; exact absurd rfl hb
  have atA : own = false → H a = some (.frz so (.lst (ns.map V.int))) := fun e => by
    rw [← hH]
    exact if_pos ⟨e, rfl⟩
  have notK : own = false → (K w.params).lookup a = none := fun e => by
    cases z : (K w.params).lookup a with
    | none => rfl
    | some u => rw [how.mpr ⟨u, z⟩] at e; cases e
  have sees : ∀ b u, H b = some u → b = a ∧ u = .frz so (.lst (ns.map V.int)) := fun b u e => by
    obtain ⟨c1, c2⟩ := onlyA b (by rw [e]; exact fun z => nomatch z)
    subst c2
    rw [atA c1] at e
    exact ⟨rfl, (Option.some.inj e).symm⟩
  have isF : SqF (K w.params) [] H [] a (ns.map V.int) := by
    cases e : own with
    | false => exact .inr (.inl ⟨so, atA e⟩)
    | true =>
      obtain ⟨u, hu⟩ := how.mp e
      have z := hK a u hu
      rw [hobj] at z
      cases z
      subst hso
      exact .inr (.inr ⟨_, vs.toArray, _, hu, rfl, rfl, rfl, by rw [List.size_toArray, hints.length]; exact hsz, by simpa using rv⟩)
  have hok : HOk l.prog w H s₁.heap := fun b u e => by
    obtain ⟨rfl, rfl⟩ := sees b u e
    subst hso
    exact ⟨hobj, by rw [List.length_map]; exact hsz, vs, _, rv, hobj⟩
  have stays : ∀ {b : Addr} {u : Obj}, s₁.heap.get? b = some u → H b = none → (hidT s₁.heap H).get? b = some u := fun e n => hidT_get e n
  have dicts : ∀ {b : Addr} {u : Obj} {es : Array DictEntry} {ep : Nat}, s₁.heap.get? b = some u → u.data = .dict es ep → H b = none := fun {b u es ep} e d => by
    cases z : H b with
    | none => rfl
    | some y =>
      obtain ⟨rfl, _⟩ := sees b y z
      rw [hobj] at e
      cases e
      rw [← hso] at d
      have d' : Data.seq vs.toArray _ = Data.dict es ep := d
      cases d'
  have names : ∀ {b : Addr} {m : Str → Option Value}, s₁.heap.Ns b m → (hidT s₁.heap H).Ns b m := fun {b m} ⟨u, es, ep, e, d, z⟩ => ⟨u, es, ep, stays e (dicts e d), d, z⟩
  have hKb : (K w.params).In (hidT s₁.heap H) := fun b u e => stays (hK b u e) (by
    cases z : H b with
    | none => rfl
    | some y =>
      obtain ⟨c1, rfl⟩ := onlyA b (by rw [z]; exact fun z => nomatch z)
      rw [notK c1] at e
      cases e)
  have hM : Mod (K w.params) mg (hidT s₁.heap H) := ⟨hKb, names G.T.g, ⟨mb, names G.T.b, G.T.builtins⟩, let ⟨mc, h1, h2⟩ := G.T.nolimit; ⟨mc, names h1, h2⟩⟩
  have e0 : Env0 l.prog w (K w.params) mg (hidT s₁.heap H) callerA [] s₁ H := ⟨rfl, hM, fun b u e => of_hidT e, Nat.le_of_eq (hidT_size _ _), trivial, fun b hb => absurd (show b ∈ ([] : List Addr) from hb) (by simp), hok, .of_eq hg⟩
  have L : Link l.prog w (K w.params) mg (hidT s₁.heap H) g k := Pr.link k
  obtain ⟨a2, fd, hma, _, hG, hbd, _⟩ := L.fn _ fn hl
  have ea : fa = a2 := by
    rw [hmg] at hma
    cases hma
    rfl
  subst ea
  rw [hps] at hG hbd
  obtain ⟨st, hA⟩ := A ns hlen
  have hsp : spI (K w.params) g k d.name [.ref a] H (fun v _ => v = .bl true) := by
    refine ⟨[], [], [], [.lsv (ns.map PV.int)], ⟨rfl, .nil, fun i b xs e => by simp at e, fun b hb => absurd hb (by simp), fun b hb => absurd hb (by simp)⟩, .cons (.lsv isF (reps_of_ints ns)) .nil, ?_⟩
    have hA : (g.ctx k).fn d.name [.lsv (ns.map PV.int)] [] = .ok (.bl true) st := hA
    rw [hA]
    intro v H' r' _ _ hv
    cases hv
    rfl
  refine codeAny_mono (hG.run callerA [] s₁ H ⟨[.ref a], []⟩ [.ref a] [.ref a] _ hr rfl e0 (hbd s₁ [.ref a] rfl) (.cons rfl .nil) hsp) fun r s' h => ?_
  cases r with
  | error e => exact False.elim h
  | ok fl =>
    cases fl with
    | next => exact False.elim h
    | brk => exact False.elim h
    | cont => exact False.elim h
    | ret u =>
      obtain ⟨v, H', os, bare, un, hok', rr, hv⟩ := h
      have hv : v = .bl true := hv
      subst hv
      obtain rfl : u = Value.bool true := rr
      refine ⟨rfl, OldK.of_keep fun b u e => ?_, os, bare⟩
      cases z : H b with
      | none => exact un.keep b u e z (fun m => absurd (show b ∈ ([] : List Addr) from m) (by simp)) (by simp)
      | some y =>
        obtain ⟨rfl, rfl⟩ := sees b y z
        have z2 := un.frzs b so _ z
        obtain ⟨e1, _⟩ := hok b _ z
        obtain ⟨e2, _⟩ := hok' b _ z2
        rw [e] at e1
        cases e1
        exact e2
end L2.Iv

/-! IvN: tools for reading a mirror: weakest wishes, loops, comprehensions, calls. Own work. -/
namespace L2.Iv
open PySem

/-- it ends well, and so -/
def wpO {α : Type} (o : Out α) (Q : α → Store → Prop) : Prop := match o with
  | .ok a st => Q a st
  | _ => False
section
variable {α β : Type} {Q : α → Store → Prop}
@[simp] theorem wp_ok (a : α) (st : Store) : wpO (.ok a st) Q = Q a st := rfl
@[simp] theorem wp_bad : wpO (.bad : Out α) Q = False := rfl
@[simp] theorem wp_exc (c : Str) (v : PV) (st : Store) : wpO (.exc c v st : Out α) Q = False := rfl
@[simp] theorem wp_bind (o : Out β) (f : β → Store → Out α) : wpO (o.bind f) Q = wpO o fun a st => wpO (f a st) Q := by cases o <;> rfl
@[simp] theorem wp_guard (c : Prop) [Decidable c] (a : Out α) : wpO (if c then a else .bad) Q = (c ∧ wpO a Q) := by
  by_cases h : c
  · rw [if_pos h]; exact propext ⟨fun q => ⟨h, q⟩, fun q => q.2⟩
  · rw [if_neg h]; exact propext ⟨False.elim, fun q => h q.1⟩
@[simp] theorem wp_guard2 (c : Prop) [Decidable c] (a : Out α) : wpO (if c then .bad else a) Q = (¬ c ∧ wpO a Q) := by
  by_cases h : c
  · rw [if_pos h]; exact propext ⟨False.elim, fun q => absurd h q.1⟩
  · rw [if_neg h]; exact propext ⟨fun q => ⟨h, q⟩, fun q => q.2⟩
theorem wp_ite (c : Prop) [Decidable c] (a b : Out α) : wpO (if c then a else b) Q = if c then wpO a Q else wpO b Q := by
  by_cases h : c
  · rw [if_pos h, if_pos h]
  · rw [if_neg h, if_neg h]
@[simp] theorem wp_of (o : Option α) (st : Store) : wpO (.of o st) Q = match o with
    | some a => Q a st
    | none => False := by cases o <;> rfl
@[simp] theorem wp_quiet (o : Out α) : wpO o.quiet Q = wpO o Q := by cases o <;> rfl
theorem wp_mono {Q' : α → Store → Prop} {o : Out α} (h : wpO o Q) (i : ∀ a st, Q a st → Q' a st) : wpO o Q' := by
  cases o with
  | ok a st => exact i a st h
  | exc => exact h
  | bad => exact h
theorem wp_eq {o : Out α} {a : α} {st : Store} (e : o = .ok a st) (h : Q a st) : wpO o Q := by rw [e]; exact h
theorem wp_get {o : Out α} (h : wpO o Q) : ∃ a st, o = .ok a st ∧ Q a st := by
  cases o with
  | ok a st => exact ⟨a, st, rfl, h⟩
  | exc => exact h.elim
  | bad => exact h.elim
@[simp] theorem ok_bind {a : β} {st : Store} {f : β → Store → Out α} : (Out.ok a st).bind f = f a st := rfl
@[simp] theorem bad_bind {f : β → Store → Out α} : (Out.bad).bind f = .bad := rfl
end
@[simp] theorem watch_nil (st : Store) : watchOk [] st := fun p h => absurd h (by simp)
theorem watch_one {i : Nat} {xs : List PV} {st : Store} (h : st[i]? = some xs) : watchOk [(i, xs)] st := fun p hp => by
  rw [List.mem_singleton] at hp; subst hp; exact h

/-! ### loops -/
theorem wp_loop {w : Watch} {f : PV → Env → Store → Out Fl} {Q : Fl → Store → Prop} (I : List PV → Env → Store → Prop)
    (turn : ∀ x xs env st, I (x :: xs) env st → watchOk w st ∧ wpO (f x env st) fun r st1 => match r with
      | .nx e => I xs e st1
      | .ct e => I xs e st1
      | .bk e => Q (.nx e) st1
      | .rt v => Q (.rt v) st1)
    (stop : ∀ env st, I [] env st → watchOk w st ∧ Q (.nx env) st) : ∀ (xs : List PV) (env : Env) (st : Store), I xs env st → wpO (loopF w f xs env st) Q := by
  intro xs
  induction xs with
  | nil =>
    intro env st h
    obtain ⟨h1, h2⟩ := stop env st h
    unfold loopF
    rw [if_pos h1]
    exact h2
  | cons x xs ih =>
    intro env st h
    obtain ⟨h1, h2⟩ := turn x xs env st h
    unfold loopF
    rw [if_pos h1, wp_bind]
    refine wp_mono h2 fun r st1 q => ?_
    cases r with
    | nx e => exact ih e st1 q
    | ct e => exact ih e st1 q
    | bk e => exact q
    | rt v => exact q
/-- over the images of a list -/
theorem wp_loopM {α : Type} {g : α → PV} {w : Watch} {f : PV → Env → Store → Out Fl} {Q : Fl → Store → Prop} (I : List α → Env → Store → Prop)
    (turn : ∀ x xs env st, I (x :: xs) env st → watchOk w st ∧ wpO (f (g x) env st) fun r st1 => match r with
      | .nx e => I xs e st1
      | .ct e => I xs e st1
      | .bk e => Q (.nx e) st1
      | .rt v => Q (.rt v) st1)
    (stop : ∀ env st, I [] env st → watchOk w st ∧ Q (.nx env) st) : ∀ (xs : List α) (env : Env) (st : Store), I xs env st → wpO (loopF w f (xs.map g) env st) Q := by
  intro xs
  induction xs with
  | nil =>
    intro env st h
    obtain ⟨h1, h2⟩ := stop env st h
    unfold List.map loopF
    rw [if_pos h1]
    exact h2
  | cons x xs ih =>
    intro env st h
    obtain ⟨h1, h2⟩ := turn x xs env st h
    rw [List.map_cons]
    unfold loopF
    rw [if_pos h1, wp_bind]
    refine wp_mono h2 fun r st1 q => ?_
    cases r with
    | nx e => exact ih e st1 q
    | ct e => exact ih e st1 q
    | bk e => exact q
    | rt v => exact q
/-- over a range -/
theorem wp_rng {lo c : Int} {n : Nat} {f : PV → Env → Store → Out Fl} {Q : Fl → Store → Prop} (I : Nat → Env → Store → Prop)
    (turn : ∀ i env st, i < n → I i env st → wpO (f (.int (lo + (i : Nat) * c)) env st) fun r st1 => match r with
      | .nx e => I (i + 1) e st1
      | .ct e => I (i + 1) e st1
      | .bk e => Q (.nx e) st1
      | .rt v => Q (.rt v) st1)
    (stop : ∀ env st, I n env st → Q (.nx env) st) (env : Env) (st : Store) (h : I 0 env st) : wpO (loopF [] f (rngL lo c n) env st) Q := by
  refine wp_loopM (g := fun i : Nat => PV.int (lo + (i : Nat) * c)) (fun l env st => ∃ i, l = (List.range n).drop i ∧ i ≤ n ∧ I i env st) ?_ ?_ (List.range n) env st ⟨0, rfl, Nat.zero_le _, h⟩
  · rintro x xs env st ⟨i, hl, hi, hI⟩
    have hlt : i < n := by
      rcases Nat.lt_or_ge i n with z | z
      · exact z
      · rw [List.drop_eq_nil_of_le (by rw [List.length_range]; exact z)] at hl; cases hl
    rw [List.drop_eq_getElem_cons (by rw [List.length_range]; exact hlt), List.getElem_range] at hl
    obtain ⟨hx, hxs⟩ := List.cons.inj hl
    refine ⟨fun p hp => absurd hp (by simp), ?_⟩
    rw [hx]
    refine wp_mono (turn i env st hlt hI) fun r st1 q => ?_
    cases r with
    | nx e => exact ⟨i + 1, hxs, hlt, q⟩
    | ct e => exact ⟨i + 1, hxs, hlt, q⟩
    | bk e => exact q
    | rt v => exact q
  · rintro env st ⟨i, hl, hi, hI⟩
    have : i = n := by
      have := congrArg List.length hl
      rw [List.length_drop, List.length_range, List.length_nil] at this
      omega
    subst this
    exact ⟨fun p hp => absurd hp (by simp), stop env st hI⟩
/-- a while, by a bound on its turns -/
theorem wp_while {c : Env → Store → Out Bool} {f : Env → Store → Out Fl} {Q : Fl → Store → Prop} (I : Nat → Env → Store → Prop)
    (turn : ∀ m env st, I m env st → wpO (c env st) fun t st1 => if t = true then wpO (f env st1) fun r st2 => match r with
      | .nx e => ∃ m', m' < m ∧ I m' e st2
      | .ct e => ∃ m', m' < m ∧ I m' e st2
      | .bk e => Q (.nx e) st2
      | .rt v => Q (.rt v) st2 else Q (.nx env) st1) : ∀ (n m : Nat) (env : Env) (st : Store), m < n → I m env st → wpO (whN c f n env st) Q := by
  intro n
  induction n with
  | zero => intro m env st h; omega
  | succ n ih =>
    intro m env st h hI
    unfold whN
    rw [wp_bind]
    refine wp_mono (turn m env st hI) fun t st1 q => ?_
    cases t with
    | false => rw [if_neg Bool.false_ne_true] at q ⊢; exact q
    | true =>
      rw [if_pos rfl] at q ⊢
      rw [wp_bind]
      refine wp_mono q fun r st2 q => ?_
      cases r with
      | nx e => obtain ⟨m', h1, h2⟩ := q; exact ih m' e st2 (by omega) h2
      | ct e => obtain ⟨m', h1, h2⟩ := q; exact ih m' e st2 (by omega) h2
      | bk e => exact q
      | rt v => exact q

/-! ### comprehensions whose parts only look -/
theorem comp_eq {α : Type} {g : α → PV} {w : Watch} {f : PV → Store → Out (List PV)} {st : Store} (hw : watchOk w st) {out : α → List PV} : ∀ (xs : List α) (acc : List PV),
    (∀ x ∈ xs, f (g x) st = .ok (out x) st) → acc.length + (xs.flatMap out).length ≤ sizeLine → compF w f (xs.map g) acc st = .ok (acc ++ xs.flatMap out) st := by
  intro xs
  induction xs with
  | nil =>
    intro acc h hl
    simp [compF, hw]
  | cons x xs ih =>
    intro acc h hl
    rw [List.map_cons]
    unfold compF
    rw [if_pos hw, h x List.mem_cons_self]
    rw [List.flatMap_cons, List.length_append] at hl
    simp only [ok_bind]
    rw [if_pos (by omega), ih (acc ++ out x) (fun y hy => h y (List.mem_cons_of_mem _ hy)) (by rw [List.length_append]; omega), List.flatMap_cons, List.append_assoc]
theorem flatMap_ite {α : Type} (p : α → Bool) (o : α → PV) : ∀ xs : List α, (xs.flatMap fun x => if p x = true then [o x] else []) = (xs.filter p).map o
  | [] => rfl
  | x :: xs => by
    rw [List.flatMap_cons, flatMap_ite p o xs, List.filter_cons]
    cases p x <;> rfl
/-- one test, one item a turn -/
theorem comp_if {α : Type} {g : α → PV} {w : Watch} {f : PV → Store → Out (List PV)} {st : Store} (p : α → Bool) (o : α → PV) (xs : List α) (hw : watchOk w st)
    (h : ∀ x ∈ xs, f (g x) st = .ok (if p x = true then [o x] else []) st) (hl : xs.length ≤ sizeLine) : compF w f (xs.map g) [] st = .ok ((xs.filter p).map o) st := by
  rw [comp_eq (out := fun x => if p x = true then [o x] else []) hw xs [] h, flatMap_ite, List.nil_append]
  rw [flatMap_ite, List.length_map]
  exact Nat.le_trans (by simpa using List.length_filter_le p xs) hl
theorem flatMap_one {α : Type} (o : α → PV) : ∀ xs : List α, (xs.flatMap fun x => [o x]) = xs.map o
  | [] => rfl
  | x :: xs => by rw [List.flatMap_cons, flatMap_one o xs]; rfl
/-- one item a turn -/
theorem comp_map {α : Type} {g : α → PV} {w : Watch} {f : PV → Store → Out (List PV)} {st : Store} (o : α → PV) (xs : List α) (hw : watchOk w st)
    (h : ∀ x ∈ xs, f (g x) st = .ok [o x] st) (hl : xs.length ≤ sizeLine) : compF w f (xs.map g) [] st = .ok (xs.map o) st := by
  have e : xs.flatMap (fun x => [o x]) = xs.map o := flatMap_one o xs
  rw [comp_eq (out := fun x => [o x]) hw xs [] h (by rw [e, List.length_map, List.length_nil]; omega), e, List.nil_append]

/-! ### calls -/
theorem locs_free : ∀ {args : List PV}, freeAll args = true → locs args = []
  | [], _ => rfl
  | .loc i :: r, h => by simp [freeAll, PV.free] at h
  | .non :: r, h => by simp [freeAll, PV.free] at h; exact locs_free (args := r) h
  | .bl _ :: r, h => by simp [freeAll, PV.free] at h; exact locs_free (args := r) h
  | .int _ :: r, h => by simp [freeAll, PV.free] at h; exact locs_free (args := r) h
  | .str _ :: r, h => by simp [freeAll, PV.free] at h; exact locs_free (args := r) h
  | .tup _ :: r, h => by simp [freeAll] at h; exact locs_free (args := r) h.2
  | .lsv _ :: r, h => by simp [freeAll] at h; exact locs_free (args := r) h.2
theorem ok_free : ∀ {args : List PV}, freeAll args = true → args.all argOk = true
  | [], _ => rfl
  | x :: r, h => by
    simp only [freeAll, Bool.and_eq_true] at h
    rw [List.all_cons, ok_free h.2, Bool.and_true]
    cases x <;> first | rfl | exact h.1
theorem ren_frees {ls : List Nat} : ∀ {args : List PV}, freeAll args = true → args.map (ren ls) = args
  | [], _ => rfl
  | x :: r, h => by
    simp only [freeAll, Bool.and_eq_true] at h
    rw [List.map_cons, ren_frees h.2, ren_free h.1]
theorem frz_free {m : Nat} {s : Store} {k : Nat} {v : PV} (h : v.free = true) : frz m s k v = some v := by
  cases k <;> (unfold frz; rw [if_pos h])
def env0 (fn : Fn) (args : List PV) : Env := args.map some ++ List.replicate (fn.N.length - args.length) none
/-- a def that is handed nothing to write -/
theorem wp_fn {g : Sg} {n : Nat} {f : Str} {fn : Fn} {args : List PV} {st : Store} {Q : PV → Store → Prop} (hl : g.tb.lookup f = some fn) (hm : fn.mt = false) (ha : args.length = fn.ps.length) (hf : freeAll args = true)
    (h : wpO (evSs (g.ctx n) fn.body (env0 fn args) []) fun r s2 => match r with
      | .rt v => ∃ v', frz 0 s2 64 v = some v' ∧ Q v' st
      | .nx _ => Q .non st
      | _ => False) : wpO ((g.ctx (n + 1)).fn f args st) Q := by
  show wpO (callF g.tb (fun x => g.gl.lookup x) (n + 1) f args st) Q
  rw [callF_succ, hl]
  dsimp only
  rw [if_pos ⟨ha, ok_free hf⟩, locs_free hf, ren_frees hf]
  dsimp only [subSt]
  have fin : ∀ (v v' : PV) (s2 : Store), frz 0 s2 64 v = some v' → Q v' st → wpO (backV fn.mt [] st v s2) Q := fun v v' s2 e q => by
    unfold backV
    dsimp only
    have e2 : flatSt (s2.take ([] : List Nat).length) = true := by rw [List.length_nil, List.take_zero]; rfl
    rw [if_pos ⟨Nat.zero_le _, e2⟩, if_neg (by rw [hm]; exact Bool.false_ne_true)]
    have e3 : frz ([] : List Nat).length s2 64 v = some v' := e
    rw [e3]
    show Q v' (putSt st [] (s2.take 0))
    rw [List.take_zero]
    exact q
  obtain ⟨r, s2, e, q⟩ := wp_get h
  have hrun : runB ⟨callF g.tb (fun x => g.gl.lookup x) n, fun x => g.gl.lookup x⟩ fn args [] = (evSs (g.ctx n) fn.body (env0 fn args) []).bind fun f st1 => match f with
    | .rt v => .ok v st1
    | .nx _ => .ok .non st1
    | _ => .bad := rfl
  rw [hrun, e]
  cases r with
  | rt v => obtain ⟨v', e1, q⟩ := q; exact fin v v' s2 e1 q
  | nx en => exact fin .non .non s2 rfl q
  | bk en => exact q.elim
  | ct en => exact q.elim
/-- the same as an equation -/
theorem fn_eq {g : Sg} {n : Nat} {f : Str} {fn : Fn} {args : List PV} {st : Store} {v : PV} (hl : g.tb.lookup f = some fn) (hm : fn.mt = false) (ha : args.length = fn.ps.length) (hf : freeAll args = true)
    (h : wpO (evSs (g.ctx n) fn.body (env0 fn args) []) fun r s2 => match r with
      | .rt u => frz 0 s2 64 u = some v
      | .nx _ => .non = v
      | _ => False) : (g.ctx (n + 1)).fn f args st = .ok v st := by
  obtain ⟨a, s, e, e1, e2⟩ := wp_get (wp_fn (Q := fun u s => u = v ∧ s = st) (st := st) hl hm ha hf (wp_mono h fun r s2 q => by
    cases r with
    | rt u => exact ⟨v, q, rfl, rfl⟩
    | nx en => exact ⟨q, rfl⟩
    | bk en => exact q
    | ct en => exact q))
  rw [e, e1, e2]
/-- a def that is handed one list to write, as its first argument -/
theorem wp_fn1 {g : Sg} {n : Nat} {f : Str} {fn : Fn} {i : Nat} {xs : List PV} {args : List PV} {st : Store} {Q : PV → Store → Prop} (hl : g.tb.lookup f = some fn) (hm : fn.mt = false) (ha : args.length + 1 = fn.ps.length) (hf : freeAll args = true)
    (hi : st[i]? = some xs) (hx : freeAll xs = true)
    (h : wpO (evSs (g.ctx n) fn.body (env0 fn (.loc 0 :: args)) [xs]) fun r s2 => ∃ ys, s2[0]? = some ys ∧ freeAll ys = true ∧ match r with
      | .rt v => ∃ v', frz 1 s2 64 v = some v' ∧ Q v' (st.set i ys)
      | .nx _ => Q .non (st.set i ys)
      | _ => False) : wpO ((g.ctx (n + 1)).fn f (.loc i :: args) st) Q := by
  show wpO (callF g.tb (fun x => g.gl.lookup x) (n + 1) f (.loc i :: args) st) Q
  have el : locs (.loc i :: args) = [i] := by
    unfold locs
    rw [locs_free hf]
    rfl
  have er : (PV.loc i :: args).map (ren [i]) = .loc 0 :: args := by
    rw [List.map_cons, ren_frees hf]
    simp [ren]
  have es : subSt st [i] = some [xs] := by
    simp [subSt, hi, hx]
  rw [callF_succ, hl]
  dsimp only
  rw [if_pos ⟨by simpa using ha, by rw [List.all_cons, ok_free hf]; rfl⟩, el, er, es]
  dsimp only
  have fin : ∀ (v v' : PV) (s2 : Store) (ys : List PV), s2[0]? = some ys → freeAll ys = true → frz 1 s2 64 v = some v' → Q v' (st.set i ys) → wpO (backV fn.mt [i] st v s2) Q := fun v v' s2 ys e1 e2 e q => by
    unfold backV
    dsimp only
    have e3 : s2.take ([i] : List Nat).length = [ys] := by
      match s2, e1 with
      | y :: r, e1 => simp at e1; subst e1; rfl
    have e4 : 1 ≤ s2.length := (List.getElem?_eq_some_iff.mp e1).1
    rw [e3, if_pos ⟨e4, by simp [flatSt, e2]⟩, if_neg (by rw [hm]; exact Bool.false_ne_true)]
    have e5 : frz ([i] : List Nat).length s2 64 v = some v' := e
    rw [e5]
    exact q
  obtain ⟨r, s2, e, ys, e1, e2, q⟩ := wp_get h
  have hrun : runB ⟨callF g.tb (fun x => g.gl.lookup x) n, fun x => g.gl.lookup x⟩ fn (.loc 0 :: args) [xs] = (evSs (g.ctx n) fn.body (env0 fn (.loc 0 :: args)) [xs]).bind fun f st1 => match f with
    | .rt v => .ok v st1
    | .nx _ => .ok .non st1
    | _ => .bad := rfl
  rw [hrun, e]
  cases r with
  | rt v => obtain ⟨v', e3, q⟩ := q; exact fin v v' s2 ys e1 e2 e3 q
  | nx en => exact fin .non .non s2 ys e1 e2 rfl q
  | bk en => exact q.elim
  | ct en => exact q.elim
/-- a def that hands back a list to be written, itself handed none -/
theorem wp_fnM {g : Sg} {n : Nat} {f : Str} {fn : Fn} {args : List PV} {st : Store} {Q : PV → Store → Prop} (hl : g.tb.lookup f = some fn) (hm : fn.mt = true) (ha : args.length = fn.ps.length) (hf : freeAll args = true)
    (h : wpO (evSs (g.ctx n) fn.body (env0 fn args) []) fun r s2 => match r with
      | .rt (.loc j) => ∃ xs, s2[j]? = some xs ∧ freeAll xs = true ∧ Q (.loc st.length) (st ++ [xs])
      | _ => False) : wpO ((g.ctx (n + 1)).fn f args st) Q := by
  show wpO (callF g.tb (fun x => g.gl.lookup x) (n + 1) f args st) Q
  rw [callF_succ, hl]
  dsimp only
  rw [if_pos ⟨ha, ok_free hf⟩, locs_free hf, ren_frees hf]
  dsimp only [subSt]
  obtain ⟨r, s2, e, q⟩ := wp_get h
  have hrun : runB ⟨callF g.tb (fun x => g.gl.lookup x) n, fun x => g.gl.lookup x⟩ fn args [] = (evSs (g.ctx n) fn.body (env0 fn args) []).bind fun f st1 => match f with
    | .rt v => .ok v st1
    | .nx _ => .ok .non st1
    | _ => .bad := rfl
  rw [hrun, e]
  cases r with
  | rt v =>
    cases v with
    | loc j =>
      obtain ⟨xs, e1, e2, q⟩ := q
      show wpO (backV fn.mt [] st (.loc j) s2) Q
      unfold backV
      dsimp only
      have e3 : flatSt (s2.take ([] : List Nat).length) = true := by rw [List.length_nil, List.take_zero]; rfl
      rw [if_pos ⟨Nat.zero_le _, e3⟩, if_pos hm]
      rw [e1]
      dsimp only
      rw [if_pos ⟨Nat.zero_le _, e2⟩]
      show Q (.loc (putSt st [] (s2.take 0)).length) (putSt st [] (s2.take 0) ++ [xs])
      rw [List.take_zero]
      exact q
    | _ => exact q.elim
  | nx en => exact q.elim
  | bk en => exact q.elim
  | ct en => exact q.elim

/-! ### one step of the evaluator -/
@[simp] theorem kit_NoneType_int : L2.kitB "NoneType" "int" = some false := by decide +kernel
@[simp] theorem kit_NoneType_bool : L2.kitB "NoneType" "bool" = some false := by decide +kernel
@[simp] theorem kit_NoneType_str : L2.kitB "NoneType" "str" = some false := by decide +kernel
@[simp] theorem kit_NoneType_tuple : L2.kitB "NoneType" "tuple" = some false := by decide +kernel
@[simp] theorem kit_NoneType_list : L2.kitB "NoneType" "list" = some false := by decide +kernel
@[simp] theorem kit_bool_int : L2.kitB "bool" "int" = some true := by decide +kernel
@[simp] theorem kit_bool_bool : L2.kitB "bool" "bool" = some true := by decide +kernel
@[simp] theorem kit_bool_str : L2.kitB "bool" "str" = some false := by decide +kernel
@[simp] theorem kit_bool_tuple : L2.kitB "bool" "tuple" = some false := by decide +kernel
@[simp] theorem kit_bool_list : L2.kitB "bool" "list" = some false := by decide +kernel
@[simp] theorem kit_int_int : L2.kitB "int" "int" = some true := by decide +kernel
@[simp] theorem kit_int_bool : L2.kitB "int" "bool" = some false := by decide +kernel
@[simp] theorem kit_int_str : L2.kitB "int" "str" = some false := by decide +kernel
@[simp] theorem kit_int_tuple : L2.kitB "int" "tuple" = some false := by decide +kernel
@[simp] theorem kit_int_list : L2.kitB "int" "list" = some false := by decide +kernel
@[simp] theorem kit_str_int : L2.kitB "str" "int" = some false := by decide +kernel
@[simp] theorem kit_str_bool : L2.kitB "str" "bool" = some false := by decide +kernel
@[simp] theorem kit_str_str : L2.kitB "str" "str" = some true := by decide +kernel
@[simp] theorem kit_str_tuple : L2.kitB "str" "tuple" = some false := by decide +kernel
@[simp] theorem kit_str_list : L2.kitB "str" "list" = some false := by decide +kernel
@[simp] theorem kit_tuple_int : L2.kitB "tuple" "int" = some false := by decide +kernel
@[simp] theorem kit_tuple_bool : L2.kitB "tuple" "bool" = some false := by decide +kernel
@[simp] theorem kit_tuple_str : L2.kitB "tuple" "str" = some false := by decide +kernel
@[simp] theorem kit_tuple_tuple : L2.kitB "tuple" "tuple" = some true := by decide +kernel
@[simp] theorem kit_tuple_list : L2.kitB "tuple" "list" = some false := by decide +kernel
@[simp] theorem kit_list_int : L2.kitB "list" "int" = some false := by decide +kernel
@[simp] theorem kit_list_bool : L2.kitB "list" "bool" = some false := by decide +kernel
@[simp] theorem kit_list_str : L2.kitB "list" "str" = some false := by decide +kernel
@[simp] theorem kit_list_tuple : L2.kitB "list" "tuple" = some false := by decide +kernel
@[simp] theorem kit_list_list : L2.kitB "list" "list" = some true := by decide +kernel
theorem in62_ok {i : Int} (h0 : -1000000000 ≤ i) (h1 : i ≤ 1000000000) : in62 i := ⟨by omega, by omega⟩
theorem in60_ok {i : Int} (h0 : -1000000000 ≤ i) (h1 : i ≤ 1000000000) : in60 i := ⟨by omega, by omega⟩
theorem rng1_ok {j : Int} {st : Store} (h0 : -1000000000 ≤ j) (h1 : j ≤ 1000000000) : rngV1 st (.int j) = .ok (rngL 0 1 j.toNat, []) st := if_pos (in62_ok h0 h1)
theorem rng2_ok {i j : Int} {st : Store} (h0 : -1000000000 ≤ i) (h1 : i ≤ 1000000000) (h2 : -1000000000 ≤ j) (h3 : j ≤ 1000000000) : rngV2 st (.int i) (.int j) = .ok (rngL i 1 (j - i).toNat, []) st := if_pos ⟨in62_ok h0 h1, in62_ok h2 h3⟩
theorem rng3_ok {i j : Int} {st : Store} (h0 : -1000000000 ≤ i) (h1 : i ≤ 1000000000) (h2 : -1000000000 ≤ j) (h3 : j ≤ 1000000000) : rngV3 (-1) st (.int i) (.int j) = .ok (rngL i (-1) (i - j).toNat, []) st := if_pos ⟨rfl, in60_ok h0 h1, in60_ok h2 h3⟩
section
variable {C : Ctx} {env : Env} {st : Store}
@[simp] theorem r_c (v : PV) : evE C (.c v) env st = Out.ok v st := by
  first | rfl | (simp only [evE]; done) | (rw [evE]; all_goals (intro z; cases z))
@[simp] theorem r_v (i : Nat) : evE C (.v i) env st = (match env[i]? with
    | some (some v) => Out.ok v st
    | _ => .bad) := by
  first | rfl | (simp only [evE]; done) | (rw [evE]; all_goals (intro z; cases z))
@[simp] theorem r_g (x : Str) : evE C (.g x) env st = Out.of (C.gl x) st := by
  first | rfl | (simp only [evE]; done) | (rw [evE]; all_goals (intro z; cases z))
@[simp] theorem r_bin (o : Bop) (fr : Bool) (a b : Ex) : evE C (.bin o fr a b) env st = (evE C a env st).bind fun x st1 => (evE C b env st1).bind fun y st2 => binV o fr st2 x y := by
  first | rfl | (simp only [evE]; done) | (rw [evE]; all_goals (intro z; cases z))
@[simp] theorem r_neg (a : Ex) : evE C (.neg a) env st = (evE C a env st).bind fun x st1 => match x with
    | .int i => .ok (.int (-i)) st1
    | _ => .bad := by
  first | rfl | (simp only [evE]; done) | (rw [evE]; all_goals (intro z; cases z))
@[simp] theorem r_nt (a : Ex) : evE C (.nt a) env st = (evE C a env st).bind fun x st1 => match Iv.truthy st1 x with
    | some b => .ok (.bl (!b)) st1
    | none => .bad := by
  first | rfl | (simp only [evE]; done) | (rw [evE]; all_goals (intro z; cases z))
@[simp] theorem r_cmp (o : Cop) (a b : Ex) : evE C (.cmp o a b) env st = (evE C a env st).bind fun x st1 => (evE C b env st1).bind fun y st2 => (Out.of (cmpV o st2 x y) st2).bind fun b st3 => .ok (.bl b) st3 := by
  first | rfl | (simp only [evE]; done) | (rw [evE]; all_goals (intro z; cases z))
@[simp] theorem r_chn (o o2 : Cop) (a b c : Ex) : evE C (.chn o o2 a b c) env st = (evE C a env st).bind fun x st1 => (evE C b env st1).bind fun y st2 => (Out.of (cmpV o st2 x y) st2).bind fun k st3 =>
      if k = true then (evE C c env st3).bind fun z st4 => (Out.of (cmpV o2 st4 y z) st4).bind fun b st5 => .ok (.bl b) st5 else .ok (.bl false) st3 := by
  first | rfl | (simp only [evE]; done) | (rw [evE]; all_goals (intro z; cases z))
@[simp] theorem r_ands (es : Exs) : evE C (.ands es) env st = evAnd C es env st := by
  first | rfl | (simp only [evE]; done) | (rw [evE]; all_goals (intro z; cases z))
@[simp] theorem r_ors (es : Exs) : evE C (.ors es) env st = evOr C es env st := by
  first | rfl | (simp only [evE]; done) | (rw [evE]; all_goals (intro z; cases z))
@[simp] theorem r_ite (c a b : Ex) : evE C (.ite c a b) env st = (evE C c env st).bind fun x st1 => match Iv.truthy st1 x with
    | some true => evE C a env st1
    | some false => evE C b env st1
    | none => .bad := by
  first | rfl | (simp only [evE]; done) | (rw [evE]; all_goals (intro z; cases z))
@[simp] theorem r_tup (es : Exs) : evE C (.tup es) env st = (evEs C es env st).bind fun xs st1 => if xs.length ≤ sizeLine then .ok (.tup xs) st1 else .bad := by
  first | rfl | (simp only [evE]; done) | (rw [evE]; all_goals (intro z; cases z))
@[simp] theorem r_lst (fr : Bool) (es : Exs) : evE C (.lst fr es) env st = (evEs C es env st).bind fun xs st1 => if xs.length ≤ sizeLine then newL fr xs st1 else .bad := by
  first | rfl | (simp only [evE]; done) | (rw [evE]; all_goals (intro z; cases z))
@[simp] theorem r_ix (a b : Ex) : evE C (.ix a b) env st = (evE C a env st).bind fun x st1 => (evE C b env st1).bind fun y st2 => .of (ixV st2 x y) st2 := by
  first | rfl | (simp only [evE]; done) | (rw [evE]; all_goals (intro z; cases z))
@[simp] theorem r_slA (fr : Bool) (a lo hi : Ex) : evE C (.slA fr a lo hi) env st = (evE C a env st).bind fun x st1 => (evE C lo env st1).bind fun y st2 => (evE C hi env st2).bind fun z st3 => match y, z with
    | .int i, .int j => slV fr st3 x (some i) (some j)
    | _, _ => .bad := by
  first | rfl | (simp only [evE]; done) | (rw [evE]; all_goals (intro z; cases z))
@[simp] theorem r_slF (fr : Bool) (a lo : Ex) : evE C (.slF fr a lo) env st = (evE C a env st).bind fun x st1 => (evE C lo env st1).bind fun y st2 => match y with
    | .int i => slV fr st2 x (some i) none
    | _ => .bad := by
  first | rfl | (simp only [evE]; done) | (rw [evE]; all_goals (intro z; cases z))
@[simp] theorem r_slT (fr : Bool) (a hi : Ex) : evE C (.slT fr a hi) env st = (evE C a env st).bind fun x st1 => (evE C hi env st1).bind fun y st2 => match y with
    | .int i => slV fr st2 x none (some i)
    | _ => .bad := by
  first | rfl | (simp only [evE]; done) | (rw [evE]; all_goals (intro z; cases z))
@[simp] theorem r_call (f : Str) (es : Exs) : evE C (.call f es) env st = (evEs C es env st).bind fun xs st1 => C.fn f xs st1 := by
  first | rfl | (simp only [evE]; done) | (rw [evE]; all_goals (intro z; cases z))
@[simp] theorem r_callk (f : Str) (es ks : Exs) (perm : List Nat) : evE C (.callk f es ks perm) env st = (evEs C es env st).bind fun xs st1 => (evEs C ks env st1).bind fun ys st2 => match perm.mapM fun i => (xs ++ ys)[i]? with
    | some zs => C.fn f zs st2
    | none => .bad := by
  first | rfl | (simp only [evE]; done) | (rw [evE]; all_goals (intro z; cases z))
@[simp] theorem r_bi (f : Bi) (fr : Bool) (es : Exs) : evE C (.bi f fr es) env st = (evEs C es env st).bind fun xs st1 => biV f fr st1 xs := by
  first | rfl | (simp only [evE]; done) | (rw [evE]; all_goals (intro z; cases z))
@[simp] theorem r_isi (e : Ex) (T : String) : evE C (.isi e T) env st = (evE C e env st).bind fun x st1 => match (tyOfP x).bind fun U => L2.kitB U T with
    | some b => .ok (.bl b) st1
    | none => .bad := by
  first | rfl | (simp only [evE]; done) | (rw [evE]; all_goals (intro z; cases z))
@[simp] theorem r_me (m : Me) (i : Nat) (es : Exs) : evE C (.me m i es) env st = (match env[i]? with
    | some (some (.loc l)) => (evEs C es env st).bind fun ys st2 => meV m st2 l ys
    | _ => .bad) := by
  first | rfl | (simp only [evE]; done) | (rw [evE]; all_goals (intro z; cases z))
@[simp] theorem r_lc (fr : Bool) (own : List Nat) (p : Pt) (it : Ix) (cs : Exs) (e : Ex) : evE C (.lc fr own p it cs e) env st = (evIx C it env st).bind fun xw st1 => (compF xw.2 (fun x st => match asgP p x (wipeE env own) with
      | some env1 => (evTests C cs env1 st).quiet.bind fun b st1 => if b = true then (evE C e env1 st1).quiet.bind fun y st2 => .ok [y] st2 else .ok [] st1
      | none => .bad) xw.1 [] st1).bind fun ys st2 => newL fr ys st2 := by
  first | rfl | (simp only [evE]; done) | (rw [evE]; all_goals (intro z; cases z))
@[simp] theorem r_es0  : evEs C .nil env st = Out.ok [] st := by
  first | rfl | (simp only [evEs]; done) | (rw [evEs]; all_goals (intro z; cases z))
@[simp] theorem r_es1 (e : Ex) (es : Exs) : evEs C (.cons e es) env st = (evE C e env st).bind fun x st1 => (evEs C es env st1).bind fun xs st2 => .ok (x :: xs) st2 := by
  first | rfl | (simp only [evEs]; done) | (rw [evEs]; all_goals (intro z; cases z))
@[simp] theorem r_and1 (e : Ex) : evAnd C (.cons e .nil) env st = evE C e env st := by
  first | rfl | (simp only [evAnd]; done) | (rw [evAnd]; all_goals (intro z; cases z))
@[simp] theorem r_and2 (e e2 : Ex) (es : Exs) : evAnd C (.cons e (.cons e2 es)) env st = (evE C e env st).bind fun x st1 => match Iv.truthy st1 x with
    | some true => evAnd C (.cons e2 es) env st1
    | some false => .ok x st1
    | none => .bad := by
  first | rfl | (simp only [evAnd]; done) | (rw [evAnd]; all_goals (intro z; cases z))
@[simp] theorem r_or1 (e : Ex) : evOr C (.cons e .nil) env st = evE C e env st := by
  first | rfl | (simp only [evOr]; done) | (rw [evOr]; all_goals (intro z; cases z))
@[simp] theorem r_or2 (e e2 : Ex) (es : Exs) : evOr C (.cons e (.cons e2 es)) env st = (evE C e env st).bind fun x st1 => match Iv.truthy st1 x with
    | some true => .ok x st1
    | some false => evOr C (.cons e2 es) env st1
    | none => .bad := by
  first | rfl | (simp only [evOr]; done) | (rw [evOr]; all_goals (intro z; cases z))
@[simp] theorem r_t0  : evTests C .nil env st = Out.ok true st := by
  first | rfl | (simp only [evTests]; done) | (rw [evTests]; all_goals (intro z; cases z))
@[simp] theorem r_t1 (e : Ex) (es : Exs) : evTests C (.cons e es) env st = (evE C e env st).bind fun x st1 => .of (Iv.truthy st1 x) st1 := by
  first | rfl | (simp only [evTests]; done) | (rw [evTests]; all_goals (intro z; cases z))
@[simp] theorem r_val (e : Ex) : evIx C (.val e) env st = (evE C e env st).bind fun x st1 => match seqA st1 x with
    | some xs => .ok (xs, watchOf x xs) st1
    | none => .bad := by
  first | rfl | (simp only [evIx]; done) | (rw [evIx]; all_goals (intro z; cases z))
@[simp] theorem r_rng1 (a : Ex) : evIx C (.rng1 a) env st = (evE C a env st).bind fun x st1 => rngV1 st1 x := by
  first | rfl | (simp only [evIx]; done)
@[simp] theorem r_rng2 (a b : Ex) : evIx C (.rng2 a b) env st = (evE C a env st).bind fun x st1 => (evE C b env st1).bind fun y st2 => rngV2 st2 x y := by
  first | rfl | (simp only [evIx]; done)
@[simp] theorem r_rng3 (a b : Ex) (c : Int) : evIx C (.rng3 a b c) env st = (evE C a env st).bind fun x st1 => (evE C b env st1).bind fun y st2 => rngV3 c st2 x y := by
  first | rfl | (simp only [evIx]; done)
@[simp] theorem r_zip (a b : Ex) : evIx C (.zip a b) env st = (evE C a env st).bind fun x st1 => (evE C b env st1).bind fun y st2 => zipV st2 x y := by
  first | rfl | (simp only [evIx]; done) | (rw [evIx]; all_goals (intro z; cases z))
@[simp] theorem r_enm (a : Ex) : evIx C (.enm a) env st = (evE C a env st).bind fun x st1 => match seqL st1 x with
    | some xs => .ok (xs.zipIdx.map fun p => .tup [.int (p.2 : Nat), p.1], watchOf x xs) st1
    | none => .bad := by
  first | rfl | (simp only [evIx]; done) | (rw [evIx]; all_goals (intro z; cases z))
@[simp] theorem r_sexpr (e : Ex) : evS C (.expr e) env st = (evE C e env st).bind fun _ st1 => .ok (.nx env) st1 := by
  first | rfl | (simp only [evS]; done) | (rw [evS]; all_goals (intro z; cases z))
@[simp] theorem r_sasg (p : Pt) (e : Ex) : evS C (.asg (.p p) e) env st = (evE C e env st).bind fun x st1 => match asgP p x env with
    | some env1 => .ok (.nx env1) st1
    | none => .bad := by
  first | rfl | (simp only [evS]; done) | (rw [evS]; all_goals (intro z; cases z))
@[simp] theorem r_ssub (o i e : Ex) : evS C (.asg (.sub o i) e) env st = (evE C e env st).bind fun x st1 => (evE C o env st1).bind fun y st2 => (evE C i env st2).bind fun z st3 => match setV st3 y z x with
    | some st4 => .ok (.nx env) st4
    | none => .bad := by
  first | rfl | (simp only [evS]; done) | (rw [evS]; all_goals (intro z; cases z))
@[simp] theorem r_saug (i : Nat) (o : Bop) (e : Ex) : evS C (.aug i o e) env st = (match env[i]? with
    | some (some v) => (evE C e env st).bind fun x st1 => match augV o v x with
      | some z => .ok (.nx (env.set i (some z))) st1
      | none => .bad
    | _ => .bad) := by
  first | rfl | (simp only [evS]; done) | (rw [evS]; all_goals (intro z; cases z))
@[simp] theorem r_siff (c : Ex) (a b : Sxs) : evS C (.iff c a b) env st = (evC C c env st).bind fun t st1 => if t = true then evSs C a env st1 else evSs C b env st1 := by
  first | rfl | (simp only [evS]; done) | (rw [evS]; all_goals (intro z; cases z))
@[simp] theorem r_sfr (p : Pt) (it : Ix) (b : Sxs) : evS C (.fr p it b) env st = (evIx C it env st).bind fun xw st1 => loopF xw.2 (fun x env st => match asgP p x env with
    | some env1 => evSs C b env1 st
    | none => .bad) xw.1 env st1 := by
  first | rfl | (simp only [evS]; done) | (rw [evS]; all_goals (intro z; cases z))
@[simp] theorem r_swh (c : Ex) (b : Sxs) : evS C (.wh c b) env st = whN (evC C c) (evSs C b) wfuel env st := by
  first | rfl | (simp only [evS]; done) | (rw [evS]; all_goals (intro z; cases z))
@[simp] theorem r_sret (e : Ex) : evS C (.ret e) env st = (evE C e env st).bind fun x st1 => .ok (.rt x) st1 := by
  first | rfl | (simp only [evS]; done) | (rw [evS]; all_goals (intro z; cases z))
@[simp] theorem r_sretn  : evS C .retn env st = Out.ok (.rt .non) st := by
  first | rfl | (simp only [evS]; done) | (rw [evS]; all_goals (intro z; cases z))
@[simp] theorem r_sbrk  : evS C .brk env st = Out.ok (.bk env) st := by
  first | rfl | (simp only [evS]; done) | (rw [evS]; all_goals (intro z; cases z))
@[simp] theorem r_scont  : evS C .cont env st = Out.ok (.ct env) st := by
  first | rfl | (simp only [evS]; done) | (rw [evS]; all_goals (intro z; cases z))
@[simp] theorem r_spass  : evS C .pass env st = Out.ok (.nx env) st := by
  first | rfl | (simp only [evS]; done) | (rw [evS]; all_goals (intro z; cases z))
@[simp] theorem r_snev  : evS C .nev env st = Out.bad := by
  first | rfl | (simp only [evS]; done) | (rw [evS]; all_goals (intro z; cases z))
@[simp] theorem r_ss0  : evSs C .nil env st = Out.ok (.nx env) st := by
  first | rfl | (simp only [evSs]; done) | (rw [evSs]; all_goals (intro z; cases z))
theorem r_ss1 (s : Sx) (r : Sxs) : evSs C (.cons s r) env st = (evS C s env st).bind fun f st1 => match f with
    | .nx env1 => evSs C r env1 st1
    | .bk e => .ok (.bk e) st1
    | .ct e => .ok (.ct e) st1
    | .rt v => .ok (.rt v) st1 := by
  first | rfl | (simp only [evSs]; done) | (rw [evSs]; all_goals (intro z; cases z))
theorem wp_ss {C : Ctx} {env : Env} {st : Store} {s : Sx} {r : Sxs} {Q : Fl → Store → Prop} : wpO (evSs C (.cons s r) env st) Q = wpO (evS C s env st) fun f st1 => match f with
    | .nx env1 => wpO (evSs C r env1 st1) Q
    | .bk e => Q (.bk e) st1
    | .ct e => Q (.ct e) st1
    | .rt v => Q (.rt v) st1 := by
  rw [r_ss1, wp_bind]
  congr 1
  funext f st1
  cases f <;> rfl
@[simp] theorem r_C (c : Ex) : evC C c env st = (evE C c env st).bind fun x st1 => .of (Iv.truthy st1 x) st1 := rfl
end
@[simp] theorem tr_bl (st : Store) (b : Bool) : Iv.truthy st (.bl b) = some b := rfl
@[simp] theorem tr_int (st : Store) (i : Int) : Iv.truthy st (.int i) = some (i != 0) := rfl
@[simp] theorem tr_non (st : Store) : Iv.truthy st .non = some false := rfl
@[simp] theorem tr_tup (st : Store) (xs : List PV) : Iv.truthy st (.tup xs) = some (!xs.isEmpty) := rfl
@[simp] theorem tr_lsv (st : Store) (xs : List PV) : Iv.truthy st (.lsv xs) = some (!xs.isEmpty) := rfl
@[simp] theorem gl_nil (tb : List (Str × Fn)) (bs : List Str) (kcs : List (Str × List Str × Nat × List Nat)) (n : Nat) (x : Str) : ((Sg.mk tb [] bs kcs).ctx n).gl x = none := rfl
end L2.Iv

/-! IvO: data that == and repr take. Own work. -/
namespace L2.Iv
open PySem

theorem freeAll_all : ∀ xs : List PV, freeAll xs = xs.all PV.free
  | [] => rfl
  | x :: xs => by rw [freeAll, List.all_cons, freeAll_all xs]
theorem toDs_map : ∀ xs : List PV, toDs xs = xs.map PV.toD
  | [] => rfl
  | x :: xs => by rw [toDs, List.map_cons, toDs_map xs]
mutual
/-- of at most n storeys, no list that is written, sound texts -/
def fit (n : Nat) : PV → Bool
  | .loc _ => false
  | .non => true
  | .bl _ => true
  | .int _ => true
  | .str s => PyData.strOk s
  | .tup xs => match n with
    | 0 => false
    | m + 1 => fits m xs
  | .lsv xs => match n with
    | 0 => false
    | m + 1 => fits m xs
def fits (n : Nat) : List PV → Bool
  | [] => true
  | x :: xs => fit n x && fits n xs
end
theorem fits_all (n : Nat) : ∀ xs : List PV, fits n xs = xs.all (fit n)
  | [] => rfl
  | x :: xs => by rw [fits, List.all_cons, fits_all n xs]
mutual
theorem fit_ok : ∀ (p : PV) (n : Nat), fit n p = true → p.free = true ∧ p.toD.canLay0 = true ∧ p.toD.depth ≤ n
  | .loc _, _, h => by cases h
  | .non, n, h => ⟨rfl, rfl, Nat.zero_le _⟩
  | .bl _, n, h => ⟨rfl, rfl, Nat.zero_le _⟩
  | .int _, n, h => ⟨rfl, rfl, Nat.zero_le _⟩
  | .str s, n, h => ⟨rfl, h, Nat.zero_le _⟩
  | .tup xs, 0, h => by cases h
  | .tup xs, n + 1, h => by
    obtain ⟨h1, h2, h3⟩ := fits_ok xs n h
    exact ⟨h1, h2, Nat.succ_le_succ h3⟩
  | .lsv xs, 0, h => by cases h
  | .lsv xs, n + 1, h => by
    obtain ⟨h1, h2, h3⟩ := fits_ok xs n h
    exact ⟨h1, h2, Nat.succ_le_succ h3⟩
theorem fits_ok : ∀ (xs : List PV) (n : Nat), fits n xs = true → freeAll xs = true ∧ PyData.canLayAll0 (toDs xs) = true ∧ PyData.depthAll (toDs xs) ≤ n
  | [], n, h => ⟨rfl, rfl, Nat.zero_le _⟩
  | x :: xs, n, h => by
    have h : (fit n x && fits n xs) = true := h
    rw [Bool.and_eq_true] at h
    obtain ⟨h1, h2, h3⟩ := fit_ok x n h.1
    obtain ⟨g1, g2, g3⟩ := fits_ok xs n h.2
    refine ⟨?_, ?_, ?_⟩
    · show (x.free && freeAll xs) = true
      rw [h1, g1]; rfl
    · show (x.toD.canLay0 && PyData.canLayAll0 (toDs xs)) = true
      rw [h2, g2]; rfl
    · exact Nat.max_le.mpr ⟨h3, g3⟩
end
theorem eqv_fit {st : Store} {p q : PV} (hp : fit 64 p = true) (hq : fit 64 q = true) : eqvV st p q = some (PyData.eqv p.toD q.toD) := by
  have gen : eqvD p q = some (PyData.eqv p.toD q.toD) := by
    obtain ⟨h1, h2, h3⟩ := fit_ok p 64 hp
    obtain ⟨g1, g2, g3⟩ := fit_ok q 64 hq
    unfold eqvD
    refine if_pos ⟨h1, g1, ?_, ?_⟩
    · unfold SeqAt.shaped; rw [h2, decide_eq_true h3]; rfl
    · unfold SeqAt.shaped; rw [g2, decide_eq_true g3]; rfl
  cases p <;> cases q <;> first | exact gen | rfl
@[simp] theorem eqv_ints (st : Store) (i j : Int) : eqvV st (.int i) (.int j) = some (i == j) := eqv_fit rfl rfl
theorem eqv_nil (st : Store) {xs : List PV} (h : fits 63 xs = true) : eqvV st (.tup xs) (.tup []) = some xs.isEmpty := by
  rw [eqv_fit (show fit 64 (.tup xs) = true from h) rfl]
  cases xs <;> rfl
/-! ### a bound on how long a thing is shown -/
mutual
def slen : PV → Nat
  | .loc _ => 4
  | .non => 4
  | .bl _ => 5
  | .int i => (toString i).length
  | .str s => (reprText s).length
  | .tup xs => slens xs + 3
  | .lsv xs => slens xs + 3
def slens : List PV → Nat
  | [] => 0
  | x :: xs => slen x + 2 + slens xs
end
mutual
theorem slen_ok : ∀ p : PV, p.toD.shown.length ≤ slen p
  | .loc _ => by show (PyData.shown .none).length ≤ 4; decide
  | .non => by show (PyData.shown .none).length ≤ 4; decide
  | .bl b => by cases b <;> (show _ ≤ 5; decide)
  | .int i => by
    show (Str.ofString (toString i)).length ≤ (toString i).length
    rw [ofString_length]
    exact Nat.le_refl _
  | .str s => Nat.le_refl _
  | .tup xs => by
    have h := tupleText_len_le (PyData.shownAll (toDs xs))
    have h2 := slens_ok xs
    show (tupleText (PyData.shownAll (toDs xs))).length ≤ slens xs + 3
    omega
  | .lsv xs => by
    have h := listText_len_le (PyData.shownAll (toDs xs))
    have h2 := slens_ok xs
    show (listText (PyData.shownAll (toDs xs))).length ≤ slens xs + 3
    omega
theorem slens_ok : ∀ xs : List PV, ((PyData.shownAll (toDs xs)).map (·.length)).sum + 2 * (PyData.shownAll (toDs xs)).length ≤ slens xs
  | [] => Nat.le_refl _
  | x :: xs => by
    have h1 := slen_ok x
    have h2 := slens_ok xs
    show ((x.toD.shown :: PyData.shownAll (toDs xs)).map (·.length)).sum + 2 * (x.toD.shown :: PyData.shownAll (toDs xs)).length ≤ slen x + 2 + slens xs
    simp only [List.map_cons, List.sum_cons, List.length_cons]
    omega
end
/-- fit, its numbers not too long, shown in at most L signs -/
structure Shows (p : PV) (n L : Nat) : Prop where
  fit : fit n p = true
  nums : p.toD.showable = true
  len : slen p ≤ L
theorem Shows.mono {p : PV} {n L m M : Nat} (h : Shows p n L) (h1 : n = m) (h2 : L ≤ M) : Shows p m M := ⟨h1 ▸ h.fit, h.nums, Nat.le_trans h.len h2⟩
theorem shows_int {i : Int} {n k : Nat} (hk : 0 < k) (h : i.natAbs < 10 ^ k) (hs : k ≤ 250) : Shows (.int i) n (k + 1) := by
  refine ⟨rfl, decide_eq_true ?_, int_text_length_le10 hk h⟩
  have h1 : i.natAbs < 2 ^ 1920 := Nat.lt_of_lt_of_le h (Nat.le_trans (Nat.pow_le_pow_right (by decide) hs) (by decide))
  by_cases h0 : i.natAbs = 0
  · rw [h0]; decide
  · exact (Nat.log2_lt h0).mpr h1
theorem slens_le {B : Nat} : ∀ {xs : List PV}, (∀ x ∈ xs, slen x ≤ B) → slens xs ≤ xs.length * (B + 2)
  | [], _ => Nat.zero_le _
  | x :: xs, h => by
    have h1 := h x List.mem_cons_self
    have h2 := slens_le (xs := xs) fun y hy => h y (List.mem_cons_of_mem _ hy)
    show slen x + 2 + slens xs ≤ (xs.length + 1) * (B + 2)
    rw [Nat.add_mul]
    omega
theorem showAll {xs : List PV} (h : ∀ x ∈ xs, x.toD.showable = true) : PyData.showableAll (toDs xs) = true := by
  induction xs with
  | nil => rfl
  | cons x xs ih =>
    show (x.toD.showable && PyData.showableAll (toDs xs)) = true
    rw [h x List.mem_cons_self, ih fun y hy => h y (List.mem_cons_of_mem _ hy)]; rfl
theorem shows_seq {xs : List PV} {n B m : Nat} (h : ∀ x ∈ xs, Shows x n B) (hm : xs.length ≤ m) : Shows (.tup xs) (n + 1) (m * (B + 2) + 3) ∧ Shows (.lsv xs) (n + 1) (m * (B + 2) + 3) := by
  have f : fits n xs = true := by
    rw [fits_all, List.all_eq_true]
    exact fun x hx => (h x hx).fit
  have s : PyData.showableAll (toDs xs) = true := showAll fun x hx => (h x hx).nums
  have l : slens xs + 3 ≤ m * (B + 2) + 3 := Nat.add_le_add_right (Nat.le_trans (slens_le fun x hx => (h x hx).len) (Nat.mul_le_mul_right _ hm)) 3
  exact ⟨⟨f, s, l⟩, ⟨f, s, l⟩⟩
theorem repr_shows {p : PV} {n L : Nat} {fr : Bool} {st : Store} (h : Shows p n L) (hn : n ≤ 64) (hL : L ≤ sizeLine) : biV .repr fr st [p] = .ok (.str p.toD.shown) st := by
  obtain ⟨h1, h2, h3⟩ := fit_ok p n h.fit
  show (if p.free = true ∧ p.toD.showable = true ∧ p.toD.shown.length ≤ sizeLine ∧ p.toD.depth ≤ 64 then _ else _) = _
  exact if_pos ⟨h1, h.nums, Nat.le_trans (slen_ok p) (Nat.le_trans h.len hL), Nat.le_trans h3 hn⟩
end L2.Iv

/-! IvP: the operations, one step each. Own work. -/
namespace L2.Iv
open PySem
section
variable {st : Store} {fr : Bool} {xs ys : List PV} {i j : Int} {env : Env} {v w : PV}
@[simp] theorem asg_n (k : Nat) : asgP (.n k) v env = some (env.set k (some v)) := rfl
@[simp] theorem asg_t2 (a b : Pt) (x y : PV) : asgP (.t2 a b) (.tup [x, y]) env = (asgP a x env).bind (asgP b y) := rfl
@[simp] theorem asg_t3 (a b c : Pt) (x y z : PV) : asgP (.t3 a b c) (.tup [x, y, z]) env = ((asgP a x env).bind (asgP b y)).bind (asgP c z) := rfl
@[simp] theorem asg_t4 (a b c d : Pt) (x y z u : PV) : asgP (.t4 a b c d) (.tup [x, y, z, u]) env = (((asgP a x env).bind (asgP b y)).bind (asgP c z)).bind (asgP d u) := rfl
@[simp] theorem asg_t5 (a b c d e : Pt) (x y z u v : PV) : asgP (.t5 a b c d e) (.tup [x, y, z, u, v]) env = ((((asgP a x env).bind (asgP b y)).bind (asgP c z)).bind (asgP d u)).bind (asgP e v) := rfl
@[simp] theorem wipe_nil : wipeE env [] = env := rfl
@[simp] theorem wipe_cons (k : Nat) (ks : List Nat) : wipeE env (k :: ks) = (wipeE env ks).set k none := rfl
@[simp] theorem seqA_tup : seqA st (.tup xs) = some xs := rfl
@[simp] theorem seqA_lsv : seqA st (.lsv xs) = some xs := rfl
@[simp] theorem seqA_loc (k : Nat) : seqA st (.loc k) = st[k]? := rfl
@[simp] theorem seqL_lsv : seqL st (.lsv xs) = some xs := rfl
@[simp] theorem seqL_loc (k : Nat) : seqL st (.loc k) = st[k]? := rfl
@[simp] theorem watch_tup : watchOf (.tup xs) ys = [] := rfl
@[simp] theorem watch_lsv : watchOf (.lsv xs) ys = [] := rfl
@[simp] theorem watch_loc (k : Nat) : watchOf (.loc k) ys = [(k, ys)] := rfl
@[simp] theorem newL_t : newL true xs st = .ok (.lsv xs) st := rfl
@[simp] theorem newL_f : newL false xs st = .ok (.loc st.length) (st ++ [xs]) := rfl
@[simp] theorem ty_non : tyOfP .non = some "NoneType" := rfl
@[simp] theorem ty_bl (b : Bool) : tyOfP (.bl b) = some "bool" := rfl
@[simp] theorem ty_int : tyOfP (.int i) = some "int" := rfl
@[simp] theorem ty_str (s : Str) : tyOfP (.str s) = some "str" := rfl
@[simp] theorem ty_tup : tyOfP (.tup xs) = some "tuple" := rfl
@[simp] theorem ty_lsv : tyOfP (.lsv xs) = some "list" := rfl
@[simp] theorem ty_loc (k : Nat) : tyOfP (.loc k) = some "list" := rfl
/-! two places -/
@[simp] theorem b_add : binV .add fr st (.int i) (.int j) = .ok (.int (i + j)) st := rfl
@[simp] theorem b_addT : binV .add fr st (.tup xs) (.tup ys) = if xs.length + ys.length ≤ sizeLine then .ok (.tup (xs ++ ys)) st else .bad := rfl
@[simp] theorem b_addS (a b : Str) : binV .add fr st (.str a) (.str b) = if a.length + b.length ≤ sizeLine then .ok (.str (a ++ b)) st else .bad := rfl
@[simp] theorem b_addL : binV .add fr st (.lsv xs) (.lsv ys) = if xs.length + ys.length ≤ sizeLine then newL fr (xs ++ ys) st else .bad := rfl
@[simp] theorem b_sub : binV .sub fr st (.int i) (.int j) = .ok (.int (i - j)) st := rfl
@[simp] theorem b_mul : binV .mul fr st (.int i) (.int j) = if i.natAbs.log2 + j.natAbs.log2 < 1000000 then .ok (.int (i * j)) st else .bad := rfl
@[simp] theorem b_fdiv : binV .fdiv fr st (.int i) (.int j) = if 0 < j ∧ j.natAbs.log2 < 9000 then .ok (.int (i / j)) st else .bad := rfl
@[simp] theorem b_mod : binV .mod fr st (.int i) (.int j) = if 0 < j then .ok (.int (i % j)) st else .bad := rfl
@[simp] theorem b_pow : binV .pow fr st (.int i) (.int j) = if 0 ≤ j ∧ j ≤ 1000000 ∧ i.natAbs < 2 ^ 64 then .ok (.int (i ^ j.toNat)) st else .bad := rfl
@[simp] theorem c_eq : cmpV .eq st v w = eqvV st v w := rfl
@[simp] theorem c_ne : cmpV .ne st v w = (eqvV st v w).map (!·) := rfl
@[simp] theorem c_lt : cmpV .lt st (.int i) (.int j) = some (decide (i < j)) := rfl
@[simp] theorem c_le : cmpV .le st (.int i) (.int j) = some (decide (i ≤ j)) := rfl
@[simp] theorem c_gt : cmpV .gt st (.int i) (.int j) = some (decide (j < i)) := rfl
@[simp] theorem c_ge : cmpV .ge st (.int i) (.int j) = some (decide (j ≤ i)) := rfl
@[simp] theorem c_isB (a b : Bool) : cmpV .is st (.bl a) (.bl b) = some (decide (a = b)) := rfl
@[simp] theorem eqv_strs (a b : Str) : eqvV st (.str a) (.str b) = some (a == b) := rfl
@[simp] theorem a_add : augV .add (.int i) (.int j) = some (.int (i + j)) := rfl
@[simp] theorem a_sub : augV .sub (.int i) (.int j) = some (.int (i - j)) := rfl
@[simp] theorem ix_tup : ixV st (.tup xs) (.int i) = L2.atI xs i := rfl
@[simp] theorem ix_lsv : ixV st (.lsv xs) (.int i) = L2.atI xs i := rfl
@[simp] theorem ix_loc (k : Nat) : ixV st (.loc k) (.int i) = match st[k]? with
    | some xs => L2.atI xs i
    | none => none := rfl
theorem at_nn {α : Type} {xs : List α} {i : Int} (h : 0 ≤ i) : L2.atI xs i = xs[i.toNat]? := by
  unfold L2.atI L2.ixN
  rw [if_pos h]
  by_cases h1 : i < xs.length
  · rw [if_pos h1]; rfl
  · rw [if_neg h1]
    exact (List.getElem?_eq_none (by omega)).symm
@[simp] theorem at_0 {α : Type} {xs : List α} : L2.atI xs 0 = xs[0]? := at_nn (by decide)
@[simp] theorem at_1 {α : Type} {xs : List α} : L2.atI xs 1 = xs[1]? := at_nn (by decide)
@[simp] theorem at_2 {α : Type} {xs : List α} : L2.atI xs 2 = xs[2]? := at_nn (by decide)
@[simp] theorem at_3 {α : Type} {xs : List α} : L2.atI xs 3 = xs[3]? := at_nn (by decide)
@[simp] theorem at_4 {α : Type} {xs : List α} : L2.atI xs 4 = xs[4]? := at_nn (by decide)
@[simp] theorem sl_tup (lo hi : Option Int) : slV fr st (.tup xs) lo hi = .ok (.tup (cutP xs lo hi)) st := rfl
@[simp] theorem sl_lsv (lo hi : Option Int) : slV fr st (.lsv xs) lo hi = newL fr (cutP xs lo hi) st := rfl
theorem cut_from (k : Nat) : cutP xs (some (k : Int)) none = xs.drop k := by
  unfold cutP
  rw [HT.sIx_nat, HT.sIx_none]
  by_cases h : k ≤ xs.length
  · rw [Nat.min_eq_left h]
    exact List.take_of_length_le (by rw [List.length_drop]; exact Nat.le_refl _)
  · rw [Nat.min_eq_right (by omega), List.drop_length, List.drop_eq_nil_of_le (by omega), List.take_nil]
@[simp] theorem cut_1 : cutP xs (some 1) none = xs.drop 1 := cut_from 1
@[simp] theorem cut_2 : cutP xs (some 2) none = xs.drop 2 := cut_from 2
theorem cut_to (k : Nat) : cutP xs none (some (k : Int)) = xs.take k := by
  unfold cutP
  rw [HT.sIx_nat, HT.sIx_none, List.drop_zero, Nat.sub_zero]
  by_cases h : k ≤ xs.length
  · rw [Nat.min_eq_left h]
  · rw [Nat.min_eq_right (by omega), List.take_length, List.take_of_length_le (by omega)]
@[simp] theorem set_loc (k : Nat) : setV st (.loc k) (.int i) v = match st[k]? with
    | some xs => (L2.ixN xs.length i).map fun j => st.set k (xs.set j v)
    | none => none := rfl
theorem ixN_nn {n : Nat} {i : Int} (h : 0 ≤ i) (h2 : i < n) : L2.ixN n i = some i.toNat := by
  unfold L2.ixN
  rw [if_pos h, if_pos h2]
/-! built-in functions -/
@[simp] theorem bi_lenT : biV .len fr st [.tup xs] = .ok (.int xs.length) st := rfl
@[simp] theorem bi_lenL : biV .len fr st [.lsv xs] = .ok (.int xs.length) st := rfl
@[simp] theorem bi_lenM (k : Nat) : biV .len fr st [.loc k] = match st[k]? with
    | some xs => .ok (.int xs.length) st
    | none => .bad := rfl
@[simp] theorem bi_abs : biV .abs fr st [.int i] = .ok (.int (if i < 0 then -i else i)) st := rfl
@[simp] theorem bi_max2 : biV .max2 fr st [.int i, .int j] = .ok (.int (if j > i then j else i)) st := rfl
@[simp] theorem bi_min2 : biV .min2 fr st [.int i, .int j] = .ok (.int (if j < i then j else i)) st := rfl
@[simp] theorem bi_sum : biV .sum fr st [.lsv xs] = match intsOf xs with
    | some ns => .ok (.int ns.sum) st
    | none => .bad := by
  show (match intsOf xs with
    | some ns => Out.ok (PV.int ns.sum) st
    | _ => .bad) = _
  cases intsOf xs <;> rfl
@[simp] theorem bi_all : biV .all fr st [.lsv xs] = match blsOf xs with
    | some bs => .ok (.bl (bs.all id)) st
    | none => .bad := by
  show (match blsOf xs with
    | some ns => Out.ok (PV.bl (ns.all id)) st
    | _ => .bad) = _
  cases blsOf xs <;> rfl
@[simp] theorem bi_any : biV .any fr st [.lsv xs] = match blsOf xs with
    | some bs => .ok (.bl (bs.any id)) st
    | none => .bad := by
  show (match blsOf xs with
    | some ns => Out.ok (PV.bl (ns.any id)) st
    | _ => .bad) = _
  cases blsOf xs <;> rfl
@[simp] theorem bi_int : biV .int fr st [.int i] = .ok (.int i) st := rfl
@[simp] theorem bi_tupT : biV .tuple fr st [.tup xs] = .ok (.tup xs) st := rfl
@[simp] theorem bi_tupL : biV .tuple fr st [.lsv xs] = .ok (.tup xs) st := rfl
@[simp] theorem bi_tupM (k : Nat) : biV .tuple fr st [.loc k] = match st[k]? with
    | some xs => .ok (.tup xs) st
    | none => .bad := by
  show (match st[k]? with
    | some xs => Out.ok (PV.tup xs) st
    | none => .bad) = _
  cases st[k]? <;> rfl
@[simp] theorem bi_listT : biV .list fr st [.tup xs] = newL fr xs st := rfl
@[simp] theorem bi_listL : biV .list fr st [.lsv xs] = newL fr xs st := rfl
@[simp] theorem me_app (k : Nat) : meV .append st k [v] = match st[k]? with
    | some xs => if xs.length < sizeLine then .ok .non (st.set k (xs ++ [v])) else .bad
    | none => .bad := by
  cases h : st[k]? <;> simp [meV, h]
@[simp] theorem zip_tup : zipV st (.tup xs) (.tup ys) = .ok ((xs.zip ys).map fun p => .tup [p.1, p.2], []) st := rfl
@[simp] theorem zip_lsv : zipV st (.lsv xs) (.lsv ys) = .ok ((xs.zip ys).map fun p => .tup [p.1, p.2], []) st := rfl
end
theorem bls_map {α : Type} (f : α → Bool) : ∀ l : List α, blsOf (l.map fun x => .bl (f x)) = some (l.map f)
  | [] => rfl
  | x :: l => by
    show (blsOf (l.map fun x => .bl (f x))).map (f x :: ·) = _
    rw [bls_map f l]; rfl
theorem ints_map {α : Type} (f : α → Int) : ∀ l : List α, intsOf (l.map fun x => .int (f x)) = some (l.map f)
  | [] => rfl
  | x :: l => by
    show (intsOf (l.map fun x => .int (f x))).map (f x :: ·) = _
    rw [ints_map f l]; rfl
theorem frz_eq {m : Nat} {s : Store} {v : PV} (h : v.free = true) : frz m s 64 v = some v := frz_free h
@[simp] theorem frz_bl (m : Nat) (s : Store) (b : Bool) : frz m s 64 (.bl b) = some (.bl b) := frz_free rfl
@[simp] theorem frz_int (m : Nat) (s : Store) (b : Int) : frz m s 64 (.int b) = some (.int b) := frz_free rfl
@[simp] theorem frz_non (m : Nat) (s : Store) : frz m s 64 .non = some .non := frz_free rfl
end L2.Iv

/-! K46A: the defs of the program as terms of the language, and the look at the text. Printed by gen.py, own work. -/
namespace L2.K46
open PySem PySem.Spec PyProof.Rows L2.Iv
def topS (i : Nat) : Stmt := PySem.Challenge.pw_scatterrows_k46_whole_divisions_of_ordin.main.body.getD i (.Pass ⟨0, 0, 0, 0⟩)
def f_is_integer : Fn where
  ps := ["value"]
  N := ["value"]
  body := (.cons (.ret (.ands (.cons (.isi (.v 0) "int") (.cons (.nt (.isi (.v 0) "bool")) .nil)))) <|
  .nil)
  mt := false
def f_is_natural : Fn where
  ps := ["value"]
  N := ["value"]
  body := (.cons (.ret (.ands (.cons (.call "is_integer" (.cons (.v 0) .nil)) (.cons (.cmp .ge (.v 0) (.c (.int 0))) .nil)))) <|
  .nil)
  mt := false
def f_is_ordinal_in : Fn where
  ps := ["told"]
  N := ["told", "one", "other", "e", "c", "own"]
  body := (.cons (.iff (.ors (.cons (.nt (.isi (.v 0) "tuple")) (.cons (.nt (.bi .all true (.cons (.lc true [5] (.n 5) (.val (.v 0)) .nil (.ands (.cons (.isi (.v 5) "tuple") (.cons (.cmp .eq (.bi .len true (.cons (.v 5) .nil)) (.c (.int 2))) .nil)))) .nil))) .nil))) (.cons (.ret (.c (.bl false))) <|
    .nil) (.nil)) <|
  .cons (.iff (.nt (.bi .all true (.cons (.lc true [3, 4] (.t2 (.n 3) (.n 4)) (.val (.v 0)) .nil (.ands (.cons (.call "is_natural" (.cons (.v 3) .nil)) (.cons (.call "is_natural" (.cons (.v 4) .nil)) (.cons (.cmp .gt (.v 4) (.c (.int 0))) .nil))))) .nil))) (.cons (.ret (.c (.bl false))) <|
    .nil) (.nil)) <|
  .cons (.ret (.bi .all true (.cons (.lc true [1, 2] (.t2 (.n 1) (.n 2)) (.zip (.v 0) (.slF true (.v 0) (.c (.int 1)))) .nil (.cmp .gt (.ix (.v 1) (.c (.int 0))) (.ix (.v 2) (.c (.int 0))))) .nil))) <|
  .nil)
  mt := false
def f_check_ordinals : Fn where
  ps := ["ordinals"]
  N := ["ordinals", "ordinal"]
  body := (.cons (.fr (.n 1) (.val (.v 0)) (.cons (.iff (.nt (.call "is_ordinal_in" (.cons (.v 1) .nil))) (.cons .nev <|
      .nil) (.nil)) <|
    .nil)) <|
  .nil)
  mt := false
def f_sum_in : Fn where
  ps := ["one", "other"]
  N := ["one", "other", "e", "c", "power", "many", "own"]
  body := (.cons (.iff (.cmp .eq (.v 1) (.tup .nil)) (.cons (.ret (.v 0)) <|
    .nil) (.nil)) <|
  .cons (.asg (.p (.t2 (.n 2) (.n 3))) (.ix (.v 1) (.c (.int 0)))) <|
  .cons (.fr (.t2 (.n 4) (.n 5)) (.val (.v 0)) (.cons (.iff (.cmp .eq (.v 4) (.v 2)) (.cons (.aug 3 .add (.v 5)) <|
      .nil) (.nil)) <|
    .nil)) <|
  .cons (.ret (.bin .add true (.bin .add true (.bi .tuple true (.cons (.lc true [6] (.n 6) (.val (.v 0)) (.cons (.cmp .gt (.ix (.v 6) (.c (.int 0))) (.v 2)) .nil) (.v 6)) .nil)) (.tup (.cons (.tup (.cons (.v 2) (.cons (.v 3) .nil))) .nil))) (.slF true (.v 1) (.c (.int 1))))) <|
  .nil)
  mt := false
def f_product_in : Fn where
  ps := ["one", "other"]
  N := ["one", "other", "found", "e", "c"]
  body := (.cons (.iff (.cmp .eq (.v 0) (.tup .nil)) (.cons (.ret (.tup .nil)) <|
    .nil) (.nil)) <|
  .cons (.asg (.p (.n 2)) (.tup .nil)) <|
  .cons (.fr (.t2 (.n 3) (.n 4)) (.val (.v 1)) (.cons (.iff (.cmp .gt (.v 3) (.c (.int 0))) (.cons (.asg (.p (.n 2)) (.bin .add true (.v 2) (.tup (.cons (.tup (.cons (.bin .add true (.ix (.ix (.v 0) (.c (.int 0))) (.c (.int 0))) (.v 3)) (.cons (.v 4) .nil))) .nil)))) <|
      .nil) (.cons (.asg (.p (.n 2)) (.bin .add true (.bin .add true (.v 2) (.tup (.cons (.tup (.cons (.ix (.ix (.v 0) (.c (.int 0))) (.c (.int 0))) (.cons (.bin .mul true (.ix (.ix (.v 0) (.c (.int 0))) (.c (.int 1))) (.v 4)) .nil))) .nil))) (.slF true (.v 0) (.c (.int 1))))) <|
      .nil)) <|
    .nil)) <|
  .cons (.ret (.v 2)) <|
  .nil)
  mt := false
def f_ordinal_sum : Fn where
  ps := ["one", "other"]
  N := ["one", "other"]
  body := (.cons (.expr (.call "check_ordinals" (.cons (.tup (.cons (.v 0) (.cons (.v 1) .nil))) .nil))) <|
  .cons (.ret (.call "sum_in" (.cons (.v 0) (.cons (.v 1) .nil)))) <|
  .nil)
  mt := false
def f_ordinal_product : Fn where
  ps := ["one", "other"]
  N := ["one", "other"]
  body := (.cons (.expr (.call "check_ordinals" (.cons (.tup (.cons (.v 0) (.cons (.v 1) .nil))) .nil))) <|
  .cons (.ret (.call "product_in" (.cons (.v 0) (.cons (.v 1) .nil)))) <|
  .nil)
  mt := false
def f__law_source : Fn where
  ps := ["script", "k"]
  N := ["script", "k", "own", "mixed", "number"]
  body := (.cons (.asg (.p (.n 2)) (.ite (.cmp .lt (.v 1) (.bi .len true (.cons (.v 0) .nil))) (.bi .int true (.cons (.ix (.v 0) (.v 1)) .nil)) (.bin .add true (.c (.int 5)) (.bin .mul true (.c (.int 9973)) (.v 1))))) <|
  .cons (.asg (.p (.n 3)) (.bin .add true (.bi .len true (.cons (.v 0) .nil)) (.c (.int 1)))) <|
  .cons (.fr (.n 4) (.val (.slT true (.v 0) (.c (.int 63)))) (.cons (.asg (.p (.n 3)) (.bin .mod true (.bi .int true (.cons (.bin .add true (.bin .mul true (.v 3) (.c (.int 6700417))) (.bin .mod true (.bi .int true (.cons (.v 4) .nil)) (.bin .add true (.bin .pow true (.c (.int 10)) (.c (.int 25))) (.c (.int 13))))) .nil)) (.bin .add true (.bin .pow true (.c (.int 10)) (.c (.int 27))) (.c (.int 103))))) <|
    .nil)) <|
  .cons (.asg (.p (.n 3)) (.bin .mod true (.bi .int true (.cons (.bin .add true (.bin .add true (.bin .mul true (.v 3) (.c (.int 97))) (.bin .mul true (.v 1) (.c (.int 7919)))) (.bin .mod true (.bi .int true (.cons (.v 2) .nil)) (.bin .add true (.bin .pow true (.c (.int 10)) (.c (.int 26))) (.c (.int 67))))) .nil)) (.bin .add true (.bin .pow true (.c (.int 10)) (.c (.int 27))) (.c (.int 103))))) <|
  .cons (.ret (.lst false (.cons (.bi .max2 true (.cons (.c (.int 0)) (.cons (.bin .sub true (.bi .abs true (.cons (.v 2) .nil)) (.bin .pow true (.c (.int 10)) (.c (.int 18)))) .nil))) (.cons (.v 3) (.cons (.c (.int 0)) .nil))))) <|
  .nil)
  mt := true
def f__law_draw : Fn where
  ps := ["source", "many"]
  N := ["source", "many", "found"]
  body := (.cons (.iff (.cmp .gt (.ix (.v 0) (.c (.int 0))) (.c (.int 0))) (.cons (.asg (.p (.n 2)) (.bin .mod true (.bi .int true (.cons (.ix (.v 0) (.c (.int 0))) .nil)) (.v 1))) <|
    .cons (.asg (.sub (.v 0) (.c (.int 0))) (.bin .fdiv true (.ix (.v 0) (.c (.int 0))) (.v 1))) <|
    .cons (.ret (.v 2)) <|
    .nil) (.nil)) <|
  .cons (.asg (.sub (.v 0) (.c (.int 2))) (.bin .add true (.ix (.v 0) (.c (.int 2))) (.c (.int 1)))) <|
  .cons (.asg (.sub (.v 0) (.c (.int 1))) (.bin .mod true (.bi .int true (.cons (.bin .add true (.bin .add true (.bin .mul true (.ix (.v 0) (.c (.int 1))) (.c (.int 2330130241))) (.bin .mul true (.bin .mul true (.ix (.v 0) (.c (.int 2))) (.ix (.v 0) (.c (.int 2)))) (.c (.int 69621)))) (.c (.int 11))) .nil)) (.bin .add true (.bin .pow true (.c (.int 10)) (.c (.int 27))) (.c (.int 103))))) <|
  .cons (.ret (.bin .mod true (.bi .int true (.cons (.bin .fdiv true (.ix (.v 0) (.c (.int 1))) (.bin .pow true (.c (.int 10)) (.c (.int 6)))) .nil)) (.v 1))) <|
  .nil)
  mt := false
def f__law_ordinal : Fn where
  ps := ["source", "most"]
  N := ["source", "most", "found", "e", "size"]
  body := (.cons (.asg (.p (.n 2)) (.lst false .nil)) <|
  .cons (.fr (.n 3) (.rng3 (.bin .sub true (.v 1) (.c (.int 1))) (.neg (.c (.int 1))) (-1)) (.cons (.iff (.ands (.cons (.cmp .lt (.bi .len true (.cons (.v 2) .nil)) (.c (.int 5))) (.cons (.cmp .gt (.call "_law_draw" (.cons (.v 0) (.cons (.c (.int 3)) .nil))) (.c (.int 0))) .nil))) (.cons (.asg (.p (.n 4)) (.ix (.lst true (.cons (.c (.int 2)) (.cons (.c (.int 40)) (.cons (.bin .sub true (.bin .pow true (.c (.int 10)) (.c (.int 9))) (.c (.int 1))) .nil)))) (.call "_law_draw" (.cons (.v 0) (.cons (.c (.int 3)) .nil))))) <|
      .cons (.expr (.me .append 2 (.cons (.tup (.cons (.v 3) (.cons (.bin .add true (.c (.int 1)) (.call "_law_draw" (.cons (.v 0) (.cons (.v 4) .nil)))) .nil))) .nil))) <|
      .nil) (.nil)) <|
    .nil)) <|
  .cons (.ret (.bi .tuple true (.cons (.v 2) .nil))) <|
  .nil)
  mt := false
def f__law_near : Fn where
  ps := ["source", "low", "top"]
  N := ["source", "low", "top", "way", "last"]
  body := (.cons (.asg (.p (.t2 (.n 3) (.n 4))) (.tup (.cons (.call "_law_draw" (.cons (.v 0) (.cons (.c (.int 4)) .nil))) (.cons (.ite (.cmp .ne (.v 1) (.tup .nil)) (.ix (.ix (.v 1) (.neg (.c (.int 1)))) (.c (.int 0))) (.v 2)) .nil)))) <|
  .cons (.iff (.ors (.cons (.cmp .eq (.v 3) (.c (.int 0))) (.cons (.ands (.cons (.cmp .eq (.v 3) (.c (.int 3))) (.cons (.cmp .eq (.v 4) (.c (.int 0))) .nil))) .nil))) (.cons (.ret (.v 1)) <|
    .nil) (.nil)) <|
  .cons (.iff (.ors (.cons (.cmp .eq (.v 3) (.c (.int 1))) (.cons (.ands (.cons (.cmp .eq (.v 1) (.tup .nil)) (.cons (.cmp .eq (.v 3) (.c (.int 2))) .nil))) .nil))) (.cons (.ret (.slT true (.v 1) (.neg (.c (.int 1))))) <|
    .nil) (.nil)) <|
  .cons (.iff (.cmp .eq (.v 3) (.c (.int 2))) (.cons (.ret (.bin .add true (.slT true (.v 1) (.neg (.c (.int 1)))) (.tup (.cons (.tup (.cons (.v 4) (.cons (.bin .add true (.ix (.ix (.v 1) (.neg (.c (.int 1)))) (.c (.int 1))) (.c (.int 1))) .nil))) .nil)))) <|
    .nil) (.nil)) <|
  .cons (.ret (.bin .add true (.v 1) (.tup (.cons (.tup (.cons (.call "_law_draw" (.cons (.v 0) (.cons (.v 4) .nil))) (.cons (.bin .add true (.c (.int 1)) (.call "_law_draw" (.cons (.v 0) (.cons (.c (.int 3)) .nil)))) .nil))) .nil)))) <|
  .nil)
  mt := false
def f__law_about : Fn where
  ps := ["source", "a"]
  N := ["source", "a", "e", "c", "ahead", "many", "own"]
  body := (.cons (.asg (.p (.t2 (.n 2) (.n 3))) (.ix (.v 1) (.c (.int 0)))) <|
  .cons (.asg (.p (.n 4)) (.bi .tuple true (.cons (.lc true [6] (.n 6) (.val (.call "_law_ordinal" (.cons (.v 0) (.cons (.c (.int 3)) .nil)))) .nil (.tup (.cons (.bin .add true (.bin .add true (.v 2) (.c (.int 1))) (.ix (.v 6) (.c (.int 0)))) (.cons (.ix (.v 6) (.c (.int 1))) .nil)))) .nil))) <|
  .cons (.asg (.p (.n 5)) (.bin .add true (.bin .mul true (.v 3) (.bin .add true (.c (.int 1)) (.call "_law_draw" (.cons (.v 0) (.cons (.c (.int 7)) .nil))))) (.call "_law_draw" (.cons (.v 0) (.cons (.c (.int 2)) .nil))))) <|
  .cons (.ret (.bin .add true (.bin .add true (.v 4) (.tup (.cons (.tup (.cons (.v 2) (.cons (.v 5) .nil))) .nil))) (.call "_law_near" (.cons (.v 0) (.cons (.slF true (.v 1) (.c (.int 1))) (.cons (.v 2) .nil)))))) <|
  .nil)
  mt := false
def f__law_rest : Fn where
  ps := ["b", "a"]
  N := ["b", "a", "at"]
  body := (.cons (.fr (.n 2) (.rng1 (.bi .len true (.cons (.v 1) .nil))) (.cons (.iff (.cmp .ne (.ix (.v 1) (.v 2)) (.ix (.v 0) (.v 2))) (.cons (.iff (.cmp .eq (.ix (.ix (.v 1) (.v 2)) (.c (.int 0))) (.ix (.ix (.v 0) (.v 2)) (.c (.int 0)))) (.cons (.ret (.bin .add true (.tup (.cons (.tup (.cons (.ix (.ix (.v 0) (.v 2)) (.c (.int 0))) (.cons (.bin .sub true (.ix (.ix (.v 0) (.v 2)) (.c (.int 1))) (.ix (.ix (.v 1) (.v 2)) (.c (.int 1)))) .nil))) .nil)) (.slF true (.v 0) (.bin .add true (.v 2) (.c (.int 1)))))) <|
        .nil) (.nil)) <|
      .cons (.ret (.slF true (.v 0) (.v 2))) <|
      .nil) (.nil)) <|
    .nil)) <|
  .cons (.ret (.slF true (.v 0) (.bi .len true (.cons (.v 1) .nil)))) <|
  .nil)
  mt := false
def f__law_divided : Fn where
  ps := ["b", "a"]
  N := ["b", "a", "e", "c", "ahead", "left", "many", "own", "q", "f", "d"]
  body := (.cons (.asg (.p (.t2 (.n 2) (.n 3))) (.ix (.v 1) (.c (.int 0)))) <|
  .cons (.asg (.p (.n 4)) (.bi .tuple true (.cons (.lc true [7] (.n 7) (.val (.v 0)) (.cons (.cmp .gt (.ix (.v 7) (.c (.int 0))) (.v 2)) .nil) (.v 7)) .nil))) <|
  .cons (.asg (.p (.t2 (.n 5) (.n 6))) (.tup (.cons (.slF true (.v 0) (.bi .len true (.cons (.v 4) .nil))) (.cons (.c (.int 0)) .nil)))) <|
  .cons (.iff (.ands (.cons (.cmp .ne (.v 5) (.tup .nil)) (.cons (.cmp .eq (.ix (.ix (.v 5) (.c (.int 0))) (.c (.int 0))) (.v 2)) .nil))) (.cons (.asg (.p (.n 6)) (.bin .fdiv true (.ix (.ix (.v 5) (.c (.int 0))) (.c (.int 1))) (.v 3))) <|
    .cons (.iff (.ands (.cons (.cmp .gt (.v 6) (.c (.int 0))) (.cons (.cmp .gt (.bin .add true (.tup (.cons (.tup (.cons (.v 2) (.cons (.bin .mul true (.v 3) (.v 6)) .nil))) .nil)) (.slF true (.v 1) (.c (.int 1)))) (.v 5)) .nil))) (.cons (.asg (.p (.n 6)) (.bin .sub true (.v 6) (.c (.int 1)))) <|
      .nil) (.nil)) <|
    .nil) (.nil)) <|
  .cons (.asg (.p (.n 7)) (.ite (.cmp .gt (.v 6) (.c (.int 0))) (.bin .add true (.tup (.cons (.tup (.cons (.v 2) (.cons (.bin .mul true (.v 3) (.v 6)) .nil))) .nil)) (.slF true (.v 1) (.c (.int 1)))) (.tup .nil))) <|
  .cons (.asg (.p (.n 8)) (.bin .add true (.bi .tuple true (.cons (.lc true [9, 10] (.t2 (.n 9) (.n 10)) (.val (.v 4)) .nil (.tup (.cons (.bin .sub true (.v 9) (.v 2)) (.cons (.v 10) .nil)))) .nil)) (.ite (.cmp .gt (.v 6) (.c (.int 0))) (.tup (.cons (.tup (.cons (.c (.int 0)) (.cons (.v 6) .nil))) .nil)) (.tup .nil)))) <|
  .cons (.ret (.tup (.cons (.v 8) (.cons (.bin .add true (.v 4) (.v 7)) (.cons (.call "_law_rest" (.cons (.v 5) (.cons (.v 7) .nil))) .nil))))) <|
  .nil)
  mt := false
def f__law_plus : Fn where
  ps := ["a", "b"]
  N := ["a", "b", "top", "same", "e", "c", "own"]
  body := (.cons (.iff (.cmp .eq (.v 1) (.tup .nil)) (.cons (.ret (.v 0)) <|
    .nil) (.nil)) <|
  .cons (.asg (.p (.t2 (.n 2) (.n 3))) (.tup (.cons (.ix (.ix (.v 1) (.c (.int 0))) (.c (.int 0))) (.cons (.bi .sum true (.cons (.lc true [4, 5] (.t2 (.n 4) (.n 5)) (.val (.v 0)) (.cons (.cmp .eq (.v 4) (.ix (.ix (.v 1) (.c (.int 0))) (.c (.int 0)))) .nil) (.v 5)) .nil)) .nil)))) <|
  .cons (.ret (.bin .add true (.bin .add true (.bi .tuple true (.cons (.lc true [6] (.n 6) (.val (.v 0)) (.cons (.cmp .gt (.ix (.v 6) (.c (.int 0))) (.v 2)) .nil) (.v 6)) .nil)) (.tup (.cons (.tup (.cons (.v 2) (.cons (.bin .add true (.v 3) (.ix (.ix (.v 1) (.c (.int 0))) (.c (.int 1)))) .nil))) .nil))) (.slF true (.v 1) (.c (.int 1))))) <|
  .nil)
  mt := false
def f__law_right : Fn where
  ps := ["source"]
  N := ["source", "a", "b", "low", "high", "rest", "third", "q", "multiple", "left", "more", "told"]
  body := (.cons (.asg (.p (.n 1)) (.call "_law_ordinal" (.cons (.v 0) (.cons (.bin .add true (.c (.int 1)) (.call "_law_draw" (.cons (.v 0) (.cons (.c (.int 15)) .nil)))) .nil)))) <|
  .cons (.asg (.p (.n 1)) (.ite (.cmp .ne (.v 1) (.tup .nil)) (.v 1) (.tup (.cons (.tup (.cons (.c (.int 0)) (.cons (.bin .add true (.c (.int 1)) (.call "_law_draw" (.cons (.v 0) (.cons (.c (.int 9)) .nil)))) .nil))) .nil)))) <|
  .cons (.asg (.p (.n 2)) (.ite (.cmp .eq (.call "_law_draw" (.cons (.v 0) (.cons (.c (.int 2)) .nil))) (.c (.int 0))) (.call "_law_about" (.cons (.v 0) (.cons (.v 1) .nil))) (.call "_law_ordinal" (.cons (.v 0) (.cons (.bin .add true (.c (.int 1)) (.call "_law_draw" (.cons (.v 0) (.cons (.c (.int 15)) .nil)))) .nil))))) <|
  .cons (.asg (.p (.t2 (.n 3) (.n 4))) (.tup (.cons (.bi .min2 true (.cons (.v 1) (.cons (.v 2) .nil))) (.cons (.bi .max2 true (.cons (.v 1) (.cons (.v 2) .nil))) .nil)))) <|
  .cons (.asg (.p (.t2 (.n 5) (.n 6))) (.tup (.cons (.call "_law_rest" (.cons (.v 4) (.cons (.v 3) .nil))) (.cons (.call "_law_ordinal" (.cons (.v 0) (.cons (.c (.int 4)) .nil))) .nil)))) <|
  .cons (.iff (.ors (.cons (.cmp .ne (.bi .repr true (.cons (.call "ordinal_sum" (.cons (.v 3) (.cons (.v 5) .nil))) .nil)) (.bi .repr true (.cons (.v 4) .nil))) (.cons (.cmp .ne (.cmp .eq (.call "ordinal_sum" (.cons (.v 3) (.cons (.v 6) .nil))) (.v 4)) (.cmp .eq (.v 6) (.v 5))) .nil))) (.cons (.ret (.c (.bl false))) <|
    .nil) (.nil)) <|
  .cons (.asg (.p (.t3 (.n 7) (.n 8) (.n 9))) (.call "_law_divided" (.cons (.v 2) (.cons (.v 1) .nil)))) <|
  .cons (.asg (.p (.n 10)) (.call "ordinal_product" (.cons (.v 1) (.cons (.call "ordinal_sum" (.cons (.v 7) (.cons (.tup (.cons (.tup (.cons (.c (.int 0)) (.cons (.c (.int 1)) .nil))) .nil)) .nil))) .nil)))) <|
  .cons (.asg (.p (.n 11)) (.lst true (.cons (.call "ordinal_product" (.cons (.v 1) (.cons (.v 7) .nil))) (.cons (.call "ordinal_sum" (.cons (.call "ordinal_product" (.cons (.v 1) (.cons (.v 7) .nil))) (.cons (.v 9) .nil))) (.cons (.v 10) .nil))))) <|
  .cons (.ret (.ands (.cons (.cmp .lt (.v 9) (.v 1)) (.cons (.cmp .eq (.bi .repr true (.cons (.v 11) .nil)) (.bi .repr true (.cons (.lst true (.cons (.v 8) (.cons (.v 2) (.cons (.call "_law_plus" (.cons (.v 8) (.cons (.v 1) .nil))) .nil)))) .nil))) (.cons (.cmp .lt (.v 2) (.v 10)) .nil))))) <|
  .nil)
  mt := false
def f_law : Fn where
  ps := ["script"]
  N := ["script", "k"]
  body := (.cons (.fr (.n 1) (.rng1 (.bi .max2 true (.cons (.c (.int 1)) (.cons (.bi .min2 true (.cons (.c (.int 6)) (.cons (.bi .len true (.cons (.v 0) .nil)) .nil))) .nil)))) (.cons (.iff (.nt (.call "_law_right" (.cons (.call "_law_source" (.cons (.v 0) (.cons (.v 1) .nil))) .nil))) (.cons (.ret (.c (.bl false))) <|
      .nil) (.nil)) <|
    .nil)) <|
  .cons (.ret (.c (.bl true))) <|
  .nil)
  mt := false
def sg : Sg where
  tb := [("is_integer", f_is_integer),
    ("is_natural", f_is_natural),
    ("is_ordinal_in", f_is_ordinal_in),
    ("check_ordinals", f_check_ordinals),
    ("sum_in", f_sum_in),
    ("product_in", f_product_in),
    ("ordinal_sum", f_ordinal_sum),
    ("ordinal_product", f_ordinal_product),
    ("_law_source", f__law_source),
    ("_law_draw", f__law_draw),
    ("_law_ordinal", f__law_ordinal),
    ("_law_near", f__law_near),
    ("_law_about", f__law_about),
    ("_law_rest", f__law_rest),
    ("_law_divided", f__law_divided),
    ("_law_plus", f__law_plus),
    ("_law_right", f__law_right),
    ("law", f_law)]
  gl := []
  bs := ["isinstance", "bool", "int", "all", "len", "tuple", "zip", "max", "abs", "range", "sum", "min", "repr"]
  kcs := []
theorem look_is_integer : chkSs sg (f_is_integer).N (defScope (topS 1)) (defScope (topS 1)) (f_is_integer).body (defBody (topS 1)) = true := by decide +kernel
theorem scope_is_integer : FnScope (f_is_integer).N (f_is_integer).ps (defScope (topS 1)) := ⟨rfl, rfl, rfl, by decide +kernel, rfl, by decide +kernel, by decide +kernel⟩
theorem at_is_integer : sg.tb.lookup ("is_integer" : Str) = some f_is_integer := rfl
theorem look_is_natural : chkSs sg (f_is_natural).N (defScope (topS 2)) (defScope (topS 2)) (f_is_natural).body (defBody (topS 2)) = true := by decide +kernel
theorem scope_is_natural : FnScope (f_is_natural).N (f_is_natural).ps (defScope (topS 2)) := ⟨rfl, rfl, rfl, by decide +kernel, rfl, by decide +kernel, by decide +kernel⟩
theorem at_is_natural : sg.tb.lookup ("is_natural" : Str) = some f_is_natural := rfl
theorem look_is_ordinal_in : chkSs sg (f_is_ordinal_in).N (defScope (topS 7)) (defScope (topS 7)) (f_is_ordinal_in).body (defBody (topS 7)) = true := by decide +kernel
theorem scope_is_ordinal_in : FnScope (f_is_ordinal_in).N (f_is_ordinal_in).ps (defScope (topS 7)) := ⟨rfl, rfl, rfl, by decide +kernel, rfl, by decide +kernel, by decide +kernel⟩
theorem at_is_ordinal_in : sg.tb.lookup ("is_ordinal_in" : Str) = some f_is_ordinal_in := rfl
theorem look_check_ordinals : chkSs sg (f_check_ordinals).N (defScope (topS 8)) (defScope (topS 8)) (f_check_ordinals).body (defBody (topS 8)) = true := by decide +kernel
theorem scope_check_ordinals : FnScope (f_check_ordinals).N (f_check_ordinals).ps (defScope (topS 8)) := ⟨rfl, rfl, rfl, by decide +kernel, rfl, by decide +kernel, by decide +kernel⟩
theorem at_check_ordinals : sg.tb.lookup ("check_ordinals" : Str) = some f_check_ordinals := rfl
theorem look_sum_in : chkSs sg (f_sum_in).N (defScope (topS 9)) (defScope (topS 9)) (f_sum_in).body (defBody (topS 9)) = true := by decide +kernel
theorem scope_sum_in : FnScope (f_sum_in).N (f_sum_in).ps (defScope (topS 9)) := ⟨rfl, rfl, rfl, by decide +kernel, rfl, by decide +kernel, by decide +kernel⟩
theorem at_sum_in : sg.tb.lookup ("sum_in" : Str) = some f_sum_in := rfl
theorem look_product_in : chkSs sg (f_product_in).N (defScope (topS 10)) (defScope (topS 10)) (f_product_in).body (defBody (topS 10)) = true := by decide +kernel
theorem scope_product_in : FnScope (f_product_in).N (f_product_in).ps (defScope (topS 10)) := ⟨rfl, rfl, rfl, by decide +kernel, rfl, by decide +kernel, by decide +kernel⟩
theorem at_product_in : sg.tb.lookup ("product_in" : Str) = some f_product_in := rfl
theorem look_ordinal_sum : chkSs sg (f_ordinal_sum).N (defScope (topS 11)) (defScope (topS 11)) (f_ordinal_sum).body (defBody (topS 11)) = true := by decide +kernel
theorem scope_ordinal_sum : FnScope (f_ordinal_sum).N (f_ordinal_sum).ps (defScope (topS 11)) := ⟨rfl, rfl, rfl, by decide +kernel, rfl, by decide +kernel, by decide +kernel⟩
theorem at_ordinal_sum : sg.tb.lookup ("ordinal_sum" : Str) = some f_ordinal_sum := rfl
theorem look_ordinal_product : chkSs sg (f_ordinal_product).N (defScope (topS 12)) (defScope (topS 12)) (f_ordinal_product).body (defBody (topS 12)) = true := by decide +kernel
theorem scope_ordinal_product : FnScope (f_ordinal_product).N (f_ordinal_product).ps (defScope (topS 12)) := ⟨rfl, rfl, rfl, by decide +kernel, rfl, by decide +kernel, by decide +kernel⟩
theorem at_ordinal_product : sg.tb.lookup ("ordinal_product" : Str) = some f_ordinal_product := rfl
theorem look__law_source : chkSs sg (f__law_source).N (defScope (topS 14)) (defScope (topS 14)) (f__law_source).body (defBody (topS 14)) = true := by decide +kernel
theorem scope__law_source : FnScope (f__law_source).N (f__law_source).ps (defScope (topS 14)) := ⟨rfl, rfl, rfl, by decide +kernel, rfl, by decide +kernel, by decide +kernel⟩
theorem at__law_source : sg.tb.lookup ("_law_source" : Str) = some f__law_source := rfl
theorem look__law_draw : chkSs sg (f__law_draw).N (defScope (topS 15)) (defScope (topS 15)) (f__law_draw).body (defBody (topS 15)) = true := by decide +kernel
theorem scope__law_draw : FnScope (f__law_draw).N (f__law_draw).ps (defScope (topS 15)) := ⟨rfl, rfl, rfl, by decide +kernel, rfl, by decide +kernel, by decide +kernel⟩
theorem at__law_draw : sg.tb.lookup ("_law_draw" : Str) = some f__law_draw := rfl
theorem look__law_ordinal : chkSs sg (f__law_ordinal).N (defScope (topS 16)) (defScope (topS 16)) (f__law_ordinal).body (defBody (topS 16)) = true := by decide +kernel
theorem scope__law_ordinal : FnScope (f__law_ordinal).N (f__law_ordinal).ps (defScope (topS 16)) := ⟨rfl, rfl, rfl, by decide +kernel, rfl, by decide +kernel, by decide +kernel⟩
theorem at__law_ordinal : sg.tb.lookup ("_law_ordinal" : Str) = some f__law_ordinal := rfl
theorem look__law_near : chkSs sg (f__law_near).N (defScope (topS 17)) (defScope (topS 17)) (f__law_near).body (defBody (topS 17)) = true := by decide +kernel
theorem scope__law_near : FnScope (f__law_near).N (f__law_near).ps (defScope (topS 17)) := ⟨rfl, rfl, rfl, by decide +kernel, rfl, by decide +kernel, by decide +kernel⟩
theorem at__law_near : sg.tb.lookup ("_law_near" : Str) = some f__law_near := rfl
theorem look__law_about : chkSs sg (f__law_about).N (defScope (topS 18)) (defScope (topS 18)) (f__law_about).body (defBody (topS 18)) = true := by decide +kernel
theorem scope__law_about : FnScope (f__law_about).N (f__law_about).ps (defScope (topS 18)) := ⟨rfl, rfl, rfl, by decide +kernel, rfl, by decide +kernel, by decide +kernel⟩
theorem at__law_about : sg.tb.lookup ("_law_about" : Str) = some f__law_about := rfl
theorem look__law_rest : chkSs sg (f__law_rest).N (defScope (topS 19)) (defScope (topS 19)) (f__law_rest).body (defBody (topS 19)) = true := by decide +kernel
theorem scope__law_rest : FnScope (f__law_rest).N (f__law_rest).ps (defScope (topS 19)) := ⟨rfl, rfl, rfl, by decide +kernel, rfl, by decide +kernel, by decide +kernel⟩
theorem at__law_rest : sg.tb.lookup ("_law_rest" : Str) = some f__law_rest := rfl
theorem look__law_divided : chkSs sg (f__law_divided).N (defScope (topS 20)) (defScope (topS 20)) (f__law_divided).body (defBody (topS 20)) = true := by decide +kernel
theorem scope__law_divided : FnScope (f__law_divided).N (f__law_divided).ps (defScope (topS 20)) := ⟨rfl, rfl, rfl, by decide +kernel, rfl, by decide +kernel, by decide +kernel⟩
theorem at__law_divided : sg.tb.lookup ("_law_divided" : Str) = some f__law_divided := rfl
theorem look__law_plus : chkSs sg (f__law_plus).N (defScope (topS 21)) (defScope (topS 21)) (f__law_plus).body (defBody (topS 21)) = true := by decide +kernel
theorem scope__law_plus : FnScope (f__law_plus).N (f__law_plus).ps (defScope (topS 21)) := ⟨rfl, rfl, rfl, by decide +kernel, rfl, by decide +kernel, by decide +kernel⟩
theorem at__law_plus : sg.tb.lookup ("_law_plus" : Str) = some f__law_plus := rfl
theorem look__law_right : chkSs sg (f__law_right).N (defScope (topS 22)) (defScope (topS 22)) (f__law_right).body (defBody (topS 22)) = true := by decide +kernel
theorem scope__law_right : FnScope (f__law_right).N (f__law_right).ps (defScope (topS 22)) := ⟨rfl, rfl, rfl, by decide +kernel, rfl, by decide +kernel, by decide +kernel⟩
theorem at__law_right : sg.tb.lookup ("_law_right" : Str) = some f__law_right := rfl
theorem look_law : chkSs sg (f_law).N (defScope (topS 23)) (defScope (topS 23)) (f_law).body (defBody (topS 23)) = true := by decide +kernel
theorem scope_law : FnScope (f_law).N (f_law).ps (defScope (topS 23)) := ⟨rfl, rfl, rfl, by decide +kernel, rfl, by decide +kernel, by decide +kernel⟩
theorem at_law : sg.tb.lookup ("law" : Str) = some f_law := rfl
end L2.K46

/-! K46B: what the defs compute, and that the law's own reckoning is the same. Own work. -/
namespace L2.K46
open PySem L2.Iv
abbrev O := List (Int × Int)
def oP (p : Int × Int) : PV := .tup [.int p.1, .int p.2]
def ordP (a : O) : PV := .tup (a.map oP)
theorem fits_ord (a : O) (n : Nat) : fits (n + 1) (a.map oP) = true := by
  rw [fits_all, List.all_map, List.all_eq_true]
  intro x _
  rfl
theorem free_ord (a : O) : (ordP a).free = true := (fit_ok (ordP a) 64 (fits_ord a 62)).1
@[simp] theorem free_ordP (a : O) : freeAll (a.map oP) = true := free_ord a
@[simp] theorem frz_ord (m : Nat) (s : Store) (a : O) : frz m s 64 (ordP a) = some (ordP a) := frz_free (free_ord a)
@[simp] theorem frz_ordT (m : Nat) (s : Store) (a : O) : frz m s 64 (.tup (a.map oP)) = some (.tup (a.map oP)) := frz_free (free_ord a)
theorem ord_nil (st : Store) (a : O) : eqvV st (.tup (a.map oP)) (.tup []) = some a.isEmpty := by
  rw [eqv_nil st (fits_ord a 62)]
  cases a <;> rfl

/-! ### plain ordinals -/
structure Okay (a : O) : Prop where
  pos : ∀ p ∈ a, 0 ≤ p.1 ∧ 0 < p.2
  dec : a.Pairwise fun p q => q.1 < p.1
theorem Okay.nil : Okay [] := ⟨fun p h => absurd h (by simp), .nil⟩
theorem Okay.tail {p : Int × Int} {a : O} (h : Okay (p :: a)) : Okay a := ⟨fun q hq => h.pos q (List.mem_cons_of_mem _ hq), (List.pairwise_cons.mp h.dec).2⟩
theorem Okay.head {p : Int × Int} {a : O} (h : Okay (p :: a)) : ∀ q ∈ a, q.1 < p.1 := (List.pairwise_cons.mp h.dec).1
theorem zip_dec : ∀ {a : O}, a.Pairwise (fun p q => q.1 < p.1) → ∀ p ∈ a.zip a.tail, p.2.1 < p.1.1
  | [], _, p, h => by simp at h
  | [x], _, p, h => by simp at h
  | x :: y :: r, hd, p, h => by
    have h : p ∈ (x, y) :: (y :: r).zip r := h
    rcases List.mem_cons.mp h with rfl | h
    · exact (List.pairwise_cons.mp hd).1 y List.mem_cons_self
    · exact zip_dec (a := y :: r) (List.pairwise_cons.mp hd).2 p h
/-- how many there are of the power e -/
def same (e : Int) : O → Int
  | [] => 0
  | p :: l => (if p.1 = e then p.2 else 0) + same e l
def over (e : Int) (a : O) : O := a.filter fun p => decide (e < p.1)
def sumIn (a : O) : O → O
  | [] => a
  | (e, c) :: r => over e a ++ (e, c + same e a) :: r
def prodIn (a b : O) : O := match a with
  | [] => []
  | (x, y) :: t => b.flatMap fun p => if 0 < p.1 then [(x + p.1, p.2)] else (x, y * p.2) :: t

theorem over_all {e : Int} {a : O} (h : ∀ p ∈ a, e < p.1) : over e a = a := List.filter_eq_self.mpr fun p hp => decide_eq_true (h p hp)
theorem over_none {e : Int} {a : O} (h : ∀ p ∈ a, p.1 ≤ e) : over e a = [] := List.filter_eq_nil_iff.mpr fun p hp z => absurd (of_decide_eq_true z) (by have := h p hp; omega)
theorem over_mem {e : Int} {a : O} {p : Int × Int} : p ∈ over e a ↔ p ∈ a ∧ e < p.1 := by
  unfold over
  rw [List.mem_filter, decide_eq_true_eq]
theorem over_over {e f : Int} (a : O) (h : e ≤ f) : over f (over e a) = over f a := by
  unfold over
  rw [List.filter_filter]
  refine List.filter_congr fun p _ => ?_
  rw [Bool.eq_iff_iff, Bool.and_eq_true, decide_eq_true_eq, decide_eq_true_eq]
  omega
theorem over_app (e : Int) (a b : O) : over e (a ++ b) = over e a ++ over e b := List.filter_append _ _
theorem same_app (e : Int) : ∀ a b : O, same e (a ++ b) = same e a + same e b
  | [], b => by show same e b = 0 + same e b; omega
  | p :: a, b => by
    show (if p.1 = e then p.2 else 0) + same e (a ++ b) = (if p.1 = e then p.2 else 0) + same e a + same e b
    rw [same_app e a b]
    omega
theorem same_none {e : Int} : ∀ {a : O}, (∀ p ∈ a, p.1 ≠ e) → same e a = 0
  | [], _ => rfl
  | p :: a, h => by
    show (if p.1 = e then p.2 else 0) + same e a = 0
    rw [if_neg (h p List.mem_cons_self), same_none fun q hq => h q (List.mem_cons_of_mem _ hq)]
    rfl
theorem same_over {e f : Int} (h : e < f) : ∀ a : O, same f (over e a) = same f a
  | [] => rfl
  | p :: a => by
    have ih := same_over h a
    show same f (List.filter _ (p :: a)) = (if p.1 = f then p.2 else 0) + same f a
    rw [List.filter_cons]
    split
    · show (if p.1 = f then p.2 else 0) + same f (over e a) = _
      rw [ih]
    · rename_i z
      have : ¬ e < p.1 := fun q => z (decide_eq_true q)
      show same f (over e a) = _
      rw [ih, if_neg (by omega)]
      omega
theorem sum_nil_left (b : O) : sumIn [] b = b := by
  cases b with
  | nil => rfl
  | cons p r =>
    obtain ⟨e, c⟩ := p
    show [] ++ (e, c + 0) :: r = _
    rw [Int.add_zero]; rfl
theorem sum_assoc (a : O) {b c : O} (hb : Okay b) (hc : Okay c) : sumIn (sumIn a b) c = sumIn a (sumIn b c) := by
  cases c with
  | nil => rfl
  | cons q s =>
    obtain ⟨f, k⟩ := q
    cases b with
    | nil => rw [sum_nil_left]; rfl
    | cons p r =>
      obtain ⟨e, m⟩ := p
      have hr : ∀ q ∈ r, q.1 < e := hb.head
      have hab : sumIn a ((e, m) :: r) = over e a ++ (e, m + same e a) :: r := rfl
      have hbc : sumIn ((e, m) :: r) ((f, k) :: s) = over f ((e, m) :: r) ++ (f, k + same f ((e, m) :: r)) :: s := rfl
      have habc : sumIn (over e a ++ (e, m + same e a) :: r) ((f, k) :: s) = over f (over e a ++ (e, m + same e a) :: r) ++ (f, k + same f (over e a ++ (e, m + same e a) :: r)) :: s := rfl
      rw [hab, habc, hbc, over_app, same_app]
      rcases Int.lt_trichotomy e f with h | h | h
      · have n1 : over f ((e, m) :: r) = [] := over_none fun p hp => by
          rcases List.mem_cons.mp hp with rfl | hp
          · exact Int.le_of_lt h
          · have := hr p hp; omega
        have n2 : over f ((e, m + same e a) :: r) = [] := over_none fun p hp => by
          rcases List.mem_cons.mp hp with rfl | hp
          · exact Int.le_of_lt h
          · have := hr p hp; omega
        have n3 : same f ((e, m) :: r) = 0 := same_none fun p hp => by
          rcases List.mem_cons.mp hp with rfl | hp
          · exact fun z => by have z : e = f := z; omega
          · have := hr p hp; omega
        have n4 : same f ((e, m + same e a) :: r) = 0 := same_none fun p hp => by
          rcases List.mem_cons.mp hp with rfl | hp
          · exact fun z => by have z : e = f := z; omega
          · have := hr p hp; omega
        rw [n1, n2, n3, n4, over_over a (Int.le_of_lt h), same_over h]
        show over f a ++ [] ++ (f, k + (same f a + 0)) :: s = over f a ++ (f, k + 0 + same f a) :: s
        rw [List.append_nil, Int.add_zero, Int.add_zero]
      · subst h
        have n1 : over e ((e, m) :: r) = [] := over_none fun p hp => by
          rcases List.mem_cons.mp hp with rfl | hp
          · exact Int.le_refl _
          · have := hr p hp; omega
        have n2 : over e ((e, m + same e a) :: r) = [] := over_none fun p hp => by
          rcases List.mem_cons.mp hp with rfl | hp
          · exact Int.le_refl _
          · have := hr p hp; omega
        have n5 : same e r = 0 := same_none fun p hp => by have := hr p hp; omega
        have n3 : same e ((e, m) :: r) = m := by
          show (if e = e then m else 0) + same e r = m
          rw [if_pos rfl, n5, Int.add_zero]
        have n4 : same e ((e, m + same e a) :: r) = m + same e a := by
          show (if e = e then m + same e a else 0) + same e r = _
          rw [if_pos rfl, n5, Int.add_zero]
        have n6 : same e (over e a) = 0 := same_none fun p hp => by have := (over_mem.mp hp).2; omega
        rw [n1, n2, n3, n4, n6, over_over a (Int.le_refl _)]
        show over e a ++ [] ++ (e, k + (0 + (m + same e a))) :: s = over e a ++ (e, k + m + same e a) :: s
        rw [List.append_nil, Int.zero_add, Int.add_assoc]
      · have n1 : over f ((e, m) :: r) = (e, m) :: over f r := by
          unfold over
          rw [List.filter_cons, if_pos (decide_eq_true h)]
        have n2 : over f ((e, m + same e a) :: r) = (e, m + same e a) :: over f r := by
          unfold over
          rw [List.filter_cons, if_pos (decide_eq_true h)]
        have n3 : same f ((e, m) :: r) = same f r := by
          show (if e = f then m else 0) + same f r = _
          rw [if_neg (by omega), Int.zero_add]
        have n4 : same f ((e, m + same e a) :: r) = same f r := by
          show (if e = f then m + same e a else 0) + same f r = _
          rw [if_neg (by omega), Int.zero_add]
        have n6 : same f (over e a) = 0 := same_none fun p hp => by have := (over_mem.mp hp).2; omega
        have n7 : over f (over e a) = over e a := over_all fun p hp => by have := (over_mem.mp hp).2; omega
        rw [n1, n2, n3, n4, n6, n7]
        show over e a ++ (e, m + same e a) :: over f r ++ (f, k + (0 + same f r)) :: s = over e a ++ (e, m + same e a) :: (over f r ++ (f, k + same f r) :: s)
        rw [Int.zero_add, List.append_assoc]
        rfl
theorem same_nn {e : Int} : ∀ {a : O}, (∀ p ∈ a, 0 ≤ p.1 ∧ 0 < p.2) → 0 ≤ same e a
  | [], _ => Int.le_refl _
  | p :: a, h => by
    have h1 := same_nn (e := e) fun q hq => h q (List.mem_cons_of_mem _ hq)
    have h2 := h p List.mem_cons_self
    show 0 ≤ (if p.1 = e then p.2 else 0) + same e a
    split <;> omega
theorem Okay.sum {a b : O} (ha : Okay a) (hb : Okay b) : Okay (sumIn a b) := by
  cases b with
  | nil => exact ha
  | cons p r =>
    obtain ⟨e, c⟩ := p
    have hs := same_nn (e := e) ha.pos
    have hp := hb.pos (e, c) List.mem_cons_self
    refine ⟨fun q hq => ?_, ?_⟩
    · rcases List.mem_append.mp hq with hq | hq
      · exact ha.pos q (over_mem.mp hq).1
      · rcases List.mem_cons.mp hq with rfl | hq
        · exact ⟨hp.1, by have := hp.2; show 0 < c + same e a; omega⟩
        · exact hb.pos q (List.mem_cons_of_mem _ hq)
    · refine List.pairwise_append.mpr ⟨List.Pairwise.sublist List.filter_sublist ha.dec, List.pairwise_cons.mpr ⟨hb.head, hb.tail.dec⟩, fun x hx y hy => ?_⟩
      have h1 := (over_mem.mp hx).2
      rcases List.mem_cons.mp hy with rfl | hy
      · exact h1
      · have := hb.head y hy
        have : y.1 < e := this
        omega
theorem prod_nil (a : O) : prodIn a [] = [] := by cases a <;> rfl
theorem prod_cons {x y : Int} {t b : O} {p : Int × Int} : prodIn ((x, y) :: t) (p :: b) = (if 0 < p.1 then [(x + p.1, p.2)] else (x, y * p.2) :: t) ++ prodIn ((x, y) :: t) b := rfl
theorem okay_zero {p : Int × Int} {a : O} (h : Okay (p :: a)) (h0 : ¬ 0 < p.1) : p.1 = 0 ∧ a = [] := by
  have h1 := (h.pos p List.mem_cons_self).1
  refine ⟨by omega, ?_⟩
  cases a with
  | nil => rfl
  | cons q r =>
    have h2 := h.head q List.mem_cons_self
    have h3 := (h.pos q (List.mem_cons_of_mem _ List.mem_cons_self)).1
    omega
theorem prod_below {x y : Int} {t : O} (ha : Okay ((x, y) :: t)) : ∀ {b : O} {u : Int}, 0 < u → Okay b → (∀ p ∈ b, p.1 < u) → ∀ q ∈ prodIn ((x, y) :: t) b, q.1 < x + u
  | [], u, _, _, _, q, hq => by rw [prod_nil] at hq; simp at hq
  | p :: b, u, hu, hb, h, q, hq => by
    rw [prod_cons] at hq
    rcases List.mem_append.mp hq with hq | hq
    · split at hq
      · rw [List.mem_singleton] at hq
        subst hq
        have := h p List.mem_cons_self
        show x + p.1 < x + u
        omega
      · rcases List.mem_cons.mp hq with rfl | hq
        · show x < x + u
          omega
        · have := ha.head q hq
          have : q.1 < x := this
          omega
    · exact prod_below ha hu hb.tail (fun p hp => h p (List.mem_cons_of_mem _ hp)) q hq
theorem Okay.prod {a b : O} (ha : Okay a) (hb : Okay b) : Okay (prodIn a b) := by
  cases a with
  | nil => exact Okay.nil
  | cons p t =>
    obtain ⟨x, y⟩ := p
    have hp := ha.pos (x, y) List.mem_cons_self
    induction b with
    | nil => exact Okay.nil
    | cons q b ih =>
      have ih := ih hb.tail
      have hq := hb.pos q List.mem_cons_self
      rw [prod_cons]
      by_cases h : 0 < q.1
      · rw [if_pos h]
        refine ⟨fun z hz => ?_, List.pairwise_cons.mpr ⟨fun z hz => prod_below ha h hb.tail (fun p hp => hb.head p hp) z hz, ih.dec⟩⟩
        rcases List.mem_cons.mp hz with rfl | hz
        · exact ⟨by have := hp.1; show 0 ≤ x + q.1; have : 0 ≤ x := this; omega, hq.2⟩
        · exact ih.pos z hz
      · obtain ⟨h1, h2⟩ := okay_zero hb h
        subst h2
        rw [if_neg h, prod_nil, List.append_nil]
        refine ⟨fun z hz => ?_, List.pairwise_cons.mpr ⟨ha.head, ha.tail.dec⟩⟩
        rcases List.mem_cons.mp hz with rfl | hz
        · exact ⟨hp.1, Int.mul_pos hp.2 hq.2⟩
        · exact ha.pos z (List.mem_cons_of_mem _ hz)
theorem prod_assoc (a : O) {b : O} (hb : Okay b) : ∀ {c : O}, Okay c → prodIn (prodIn a b) c = prodIn a (prodIn b c) := by
  intro c hc
  cases a with
  | nil => rfl
  | cons p t =>
    obtain ⟨x, y⟩ := p
    cases b with
    | nil => rfl
    | cons q w =>
      obtain ⟨u, v⟩ := q
      have hq := hb.pos (u, v) List.mem_cons_self
      have hu : 0 ≤ u := hq.1
      induction c with
      | nil => rw [prod_nil, prod_nil, prod_nil]
      | cons z c ih =>
        obtain ⟨f, k⟩ := z
        have ih := ih hc.tail
        have e1 : prodIn ((u, v) :: w) ((f, k) :: c) = (if 0 < f then [(u + f, k)] else (u, v * k) :: w) ++ prodIn ((u, v) :: w) c := prod_cons
        have app : ∀ l m : O, prodIn ((x, y) :: t) (l ++ m) = prodIn ((x, y) :: t) l ++ prodIn ((x, y) :: t) m := fun l m => List.flatMap_append
        rw [e1, app, ← ih]
        by_cases hu0 : 0 < u
        · have e2 : prodIn ((x, y) :: t) ((u, v) :: w) = (x + u, v) :: prodIn ((x, y) :: t) w := by rw [prod_cons, if_pos hu0]; rfl
          rw [e2, prod_cons]
          congr 1
          by_cases hf : 0 < f
          · rw [if_pos hf, if_pos hf, prod_cons, if_pos (by show 0 < u + f; omega), prod_nil]
            show [(x + u + f, k)] = [(x + (u + f), k)]
            rw [Int.add_assoc]
          · rw [if_neg hf, if_neg hf, prod_cons, if_pos hu0]
            rfl
        · obtain ⟨h1, h2⟩ := okay_zero hb hu0
          have h1 : u = 0 := h1
          subst h1
          subst h2
          have e2 : prodIn ((x, y) :: t) [((0 : Int), v)] = (x, y * v) :: t := by
            rw [prod_cons, if_neg hu0, prod_nil, List.append_nil]
          rw [e2, prod_cons]
          congr 1
          by_cases hf : 0 < f
          · rw [if_pos hf, if_pos hf, prod_cons, if_pos (by show 0 < 0 + f; omega), prod_nil]
            show [(x + f, k)] = [(x + (0 + f), k)]
            rw [Int.zero_add]
          · rw [if_neg hf, if_neg hf, prod_cons, if_neg hu0, prod_nil, List.append_nil]
            show (x, y * v * k) :: t = (x, y * (v * k)) :: t
            rw [Int.mul_assoc]
theorem prod_one (a : O) : prodIn a [(0, 1)] = a := by
  cases a with
  | nil => rfl
  | cons p t =>
    obtain ⟨x, y⟩ := p
    rw [prod_cons, if_neg (by show ¬ (0 : Int) < 0; omega), prod_nil, List.append_nil]
    show (x, y * 1) :: t = _
    rw [Int.mul_one]
theorem one_prod : ∀ {a : O}, Okay a → prodIn [(0, 1)] a = a
  | [], _ => rfl
  | p :: a, h => by
    rw [prod_cons, one_prod h.tail]
    by_cases h0 : 0 < p.1
    · rw [if_pos h0, Int.zero_add]; rfl
    · obtain ⟨h1, _⟩ := okay_zero h h0
      rw [if_neg h0, Int.one_mul]
      show ((0 : Int), p.2) :: a = p :: a
      rw [← h1]
/-! ### bounds -/
structure Bd (L : Nat) (E C : Int) (a : O) : Prop where
  ok : Okay a
  len : a.length ≤ L
  big : ∀ p ∈ a, p.1 ≤ E ∧ p.2 ≤ C
theorem same_le {e C : Int} (hC : 0 ≤ C) : ∀ {a : O}, Okay a → (∀ p ∈ a, p.2 ≤ C) → same e a ≤ C
  | [], _, _ => hC
  | p :: a, h, hb => by
    show (if p.1 = e then p.2 else 0) + same e a ≤ C
    by_cases h1 : p.1 = e
    · rw [if_pos h1, same_none fun q hq => by have := h.head q hq; omega, Int.add_zero]
      exact hb p List.mem_cons_self
    · rw [if_neg h1, Int.zero_add]
      exact same_le hC h.tail fun q hq => hb q (List.mem_cons_of_mem _ hq)
theorem Bd.sum {a b : O} {L M : Nat} {E C D : Int} (ha : Bd L E C a) (hb : Bd M E D b) (hC : 0 ≤ C) (hD : 0 ≤ D) : Bd (L + M) E (C + D) (sumIn a b) := by
  refine ⟨ha.ok.sum hb.ok, ?_, fun q hq => ?_⟩
  · cases b with
    | nil => exact Nat.le_trans ha.len (Nat.le_add_right _ _)
    | cons p r =>
      have h1 := ha.len
      have h2 := hb.len
      have h3 : (over p.1 a).length ≤ a.length := List.length_filter_le _ _
      show (over p.1 a ++ (p.1, p.2 + same p.1 a) :: r).length ≤ _
      rw [List.length_append, List.length_cons]
      rw [List.length_cons] at h2
      omega
  · cases b with
    | nil => have := ha.big q hq; exact ⟨this.1, by omega⟩
    | cons p r =>
      have hq : q ∈ over p.1 a ++ (p.1, p.2 + same p.1 a) :: r := hq
      rcases List.mem_append.mp hq with hq | hq
      · have := ha.big q (over_mem.mp hq).1
        exact ⟨this.1, by omega⟩
      · rcases List.mem_cons.mp hq with rfl | hq
        · have h1 := hb.big p List.mem_cons_self
          have h2 := same_le (e := p.1) hC ha.ok fun q hq => (ha.big q hq).2
          exact ⟨h1.1, by show p.2 + same p.1 a ≤ C + D; omega⟩
        · have := hb.big q (List.mem_cons_of_mem _ hq)
          exact ⟨this.1, by omega⟩
theorem prod_len {x y : Int} {t : O} : ∀ b : O, (prodIn ((x, y) :: t) b).length ≤ b.length * (t.length + 2)
  | [] => by rw [prod_nil]; exact Nat.zero_le _
  | p :: b => by
    have ih := prod_len (x := x) (y := y) (t := t) b
    rw [prod_cons, List.length_append, List.length_cons, Nat.add_mul]
    split
    · rw [List.length_singleton]; omega
    · rw [List.length_cons]; omega
theorem Bd.prod {a b : O} {L M : Nat} {E F C D : Int} (ha : Bd L E C a) (hb : Bd M F D b) (hE : 0 ≤ E) (hF : 0 ≤ F) (hC : 1 ≤ C) (hD : 1 ≤ D) : Bd (M * (L + 1)) (E + F) (C * D) (prodIn a b) := by
  refine ⟨ha.ok.prod hb.ok, ?_, ?_⟩
  · cases a with
    | nil => exact Nat.zero_le _
    | cons p t =>
      obtain ⟨x, y⟩ := p
      have h1 := prod_len (x := x) (y := y) (t := t) b
      have h2 := ha.len
      rw [List.length_cons] at h2
      exact Nat.le_trans h1 (Nat.mul_le_mul hb.len (by omega))
  · cases a with
    | nil => exact fun q hq => absurd hq (by simp [prodIn])
    | cons p t =>
      obtain ⟨x, y⟩ := p
      have hp := ha.big (x, y) List.mem_cons_self
      have hpos := ha.ok.pos (x, y) List.mem_cons_self
      have hx : x ≤ E := hp.1
      have hy : y ≤ C := hp.2
      have hy0 : 0 < y := hpos.2
      have hCD : C ≤ C * D := by
        have := Int.mul_le_mul_of_nonneg_left hD (show 0 ≤ C by omega)
        omega
      have hDC : D ≤ C * D := by
        have := Int.mul_le_mul_of_nonneg_right hC (show 0 ≤ D by omega)
        omega
      have hbo := hb.ok
      have hbb := hb.big
      clear hb
      induction b with
      | nil => exact fun q hq => absurd hq (by simp [prodIn])
      | cons z b ih =>
        have ih := ih hbo.tail (fun q hq => hbb q (List.mem_cons_of_mem _ hq))
        have hz := hbb z List.mem_cons_self
        have hz0 := hbo.pos z List.mem_cons_self
        intro q hq
        rw [prod_cons] at hq
        rcases List.mem_append.mp hq with hq | hq
        · split at hq
          · rw [List.mem_singleton] at hq
            subst hq
            exact ⟨by show x + z.1 ≤ E + F; omega, by show z.2 ≤ C * D; omega⟩
          · rcases List.mem_cons.mp hq with rfl | hq
            · refine ⟨by show x ≤ E + F; omega, ?_⟩
              show y * z.2 ≤ C * D
              have q1 := Int.mul_le_mul_of_nonneg_left hz.2 (show 0 ≤ y by omega)
              have q2 := Int.mul_le_mul_of_nonneg_right hy (show 0 ≤ D by omega)
              omega
            · have := ha.big q (List.mem_cons_of_mem _ hq)
              exact ⟨by omega, by omega⟩
        · exact ih q hq
end L2.K46

/-! K46C: the walk through the defs. Own work. -/
namespace L2.K46
open PySem L2.Iv
theorem e_is_integer (i : Int) (n : Nat) (st : Store) : (sg.ctx (n + 1)).fn "is_integer" [.int i] st = .ok (.bl true) st := by
  refine fn_eq at_is_integer rfl rfl rfl ?_
  simp [f_is_integer, env0, wp_ss]
theorem e_is_natural (i : Int) (n : Nat) (st : Store) : (sg.ctx (n + 2)).fn "is_natural" [.int i] st = .ok (.bl (decide (0 ≤ i))) st := by
  refine fn_eq at_is_natural rfl rfl rfl ?_
  simp [f_is_natural, env0, wp_ss, e_is_integer]
theorem zip_ord (a : O) : (((a.map oP).zip ((a.map oP).drop 1)).map fun p => PV.tup [p.1, p.2]) = (a.zip a.tail).map fun p => PV.tup [oP p.1, oP p.2] := by
  rw [List.drop_one, ← List.map_tail, List.zip_map, List.map_map]
  rfl
theorem all_true {α : Type} (l : List α) : (l.map fun _ => true).all id = true := by simp
theorem e_is_ordinal_in (a : O) (n : Nat) (st : Store) (h : Okay a) (hl : a.length ≤ sizeLine) : (sg.ctx (n + 3)).fn "is_ordinal_in" [ordP a] st = .ok (.bl true) st := by
  refine fn_eq at_is_ordinal_in rfl rfl (by simp [freeAll, free_ord]) ?_
  simp only [f_is_ordinal_in, env0]
  rw [wp_ss]
  simp [ordP]
  rw [comp_map (o := fun _ => .bl true) a (by simp) (fun x _ => by simp [oP]) hl]
  simp [bls_map]
  rw [wp_ss]
  simp
  rw [comp_map (o := fun _ => .bl true) a (by simp) (fun x hx => by have h1 := h.pos x hx; have h2 : 0 ≤ x.2 := (by omega); simp [oP, e_is_natural, h1.1, h2, h1.2]) hl]
  simp [bls_map]
  rw [wp_ss]
  simp
  have hz := zip_ord a
  rw [List.drop_one] at hz
  rw [hz]
  have hzl : (a.zip a.tail).length ≤ sizeLine := Nat.le_trans (by rw [List.length_zip]; exact Nat.min_le_left _ _) hl
  rw [comp_map (o := fun _ => .bl true) (a.zip a.tail) (by simp) (fun x hx => by have h1 := zip_dec h.dec x hx; simp [oP, h1]) hzl]
  simp [bls_map]
theorem e_check_ordinals (a b : O) (n : Nat) (st : Store) (h : Okay a) (hl : a.length ≤ sizeLine) (h2 : Okay b) (hl2 : b.length ≤ sizeLine) : (sg.ctx (n + 4)).fn "check_ordinals" [.tup [ordP a, ordP b]] st = .ok .non st := by
  refine fn_eq at_check_ordinals rfl rfl (by simp [freeAll, PV.free, free_ord]) ?_
  simp only [f_check_ordinals, env0]
  rw [wp_ss]
  simp [loopF, wp_ss, e_is_ordinal_in, h, hl, h2, hl2]
theorem sum_len (a b : O) : (sumIn a b).length ≤ a.length + b.length := by
  cases b with
  | nil => exact Nat.le_add_right _ _
  | cons p r =>
    have h3 : (over p.1 a).length ≤ a.length := List.length_filter_le _ _
    show (over p.1 a ++ (p.1, p.2 + same p.1 a) :: r).length ≤ _
    rw [List.length_append, List.length_cons, List.length_cons]
    omega
theorem eqv_00 (st : Store) : eqvV st (.tup []) (.tup []) = some true := eqv_nil st rfl
theorem e_sum_in (a b : O) (n : Nat) (st : Store) (hl : a.length + b.length < sizeLine) : (sg.ctx (n + 1)).fn "sum_in" [ordP a, ordP b] st = .ok (ordP (sumIn a b)) st := by
  refine fn_eq at_sum_in rfl rfl (by simp [freeAll, free_ord]) ?_
  simp only [f_sum_in, env0]
  rw [wp_ss]
  cases b with
  | nil =>
    simp [ordP, eqv_00]
    rw [wp_ss]
    simp [sumIn]
  | cons p r =>
    obtain ⟨e, c⟩ := p
    have e1 := ord_nil [] ((e, c) :: r)
    simp only [List.map_cons] at e1
    simp [ordP, e1]
    rw [wp_ss]
    simp [oP]
    rw [wp_ss]
    simp
    obtain ⟨I, hI⟩ : ∃ I : O → Iv.Env → Store → Prop, I = fun l env st' => st' = [] ∧ ∃ x y c', env = [some (.tup (a.map oP)), some (.tup (oP (e, c) :: r.map oP)), some (.int e), some (.int c'), x, y, none] ∧ c' + same e l = c + same e a := ⟨_, rfl⟩
    refine wp_loopM (g := oP) I ?_ ?_ a _ _ (by rw [hI]; exact ⟨rfl, none, none, c, rfl, rfl⟩)
    · intro x xs env st' h
      rw [hI] at h
      obtain ⟨rfl, u, v, c', rfl, hs⟩ := h
      refine ⟨by simp, ?_⟩
      have hs : c' + ((if x.1 = e then x.2 else 0) + same e xs) = c + same e a := hs
      simp [oP]
      rw [wp_ss]
      simp
      by_cases he : x.1 = e
      · rw [if_pos he] at hs
        simp [he, wp_ss]
        rw [hI]
        exact ⟨rfl, _, _, _, rfl, by omega⟩
      · rw [if_neg he] at hs
        simp [he, wp_ss]
        rw [hI]
        exact ⟨rfl, _, _, _, rfl, by omega⟩
    · intro env st' h
      rw [hI] at h
      obtain ⟨rfl, u, v, c', rfl, hs⟩ := h
      have hs : c' + 0 = c + same e a := hs
      refine ⟨by simp, ?_⟩
      dsimp only
      rw [wp_ss]
      simp
      have hal : a.length ≤ sizeLine := by rw [List.length_cons] at hl; omega
      rw [comp_if (fun p => decide (e < p.1)) oP a (by simp) (fun x _ => by simp [oP]; split <;> rfl) hal]
      have h3 : (over e a).length ≤ a.length := List.length_filter_le _ _
      have h4 : (List.filter (fun p => decide (e < p.1)) a) = over e a := rfl
      rw [List.length_cons] at hl
      have z1 : 2 ≤ sizeLine := by decide
      rw [h4]
      simp [z1]
      refine ⟨by decide, by omega, by omega, ?_⟩
      have h5 : c' = c + same e a := by omega
      rw [h5]
      exact (frz_ordT 0 [] (over e a ++ (e, c + same e a) :: r) |> fun z => by simpa [sumIn, oP] using z)
end L2.K46

/-! K46D: the walk, further on. Own work. -/
namespace L2.K46
open PySem L2.Iv
theorem prod_app (a l m : O) : prodIn a (l ++ m) = prodIn a l ++ prodIn a m := by
  cases a with
  | nil => rfl
  | cons p t => exact List.flatMap_append
/-- numbers that the machine multiplies -/
theorem mul_ok {i j : Int} (hi : i.natAbs < 2 ^ 400) (hj : j.natAbs < 2 ^ 400) : i.natAbs.log2 + j.natAbs.log2 < 1000000 := by
  have h : ∀ k : Nat, k < 2 ^ 400 → k.log2 < 400 := fun k hk => by
    by_cases h0 : k = 0
    · subst h0; decide
    · exact (Nat.log2_lt h0).mpr hk
  have h1 := h _ hi
  have h2 := h _ hj
  omega
theorem small_of {i C : Int} (h : i ≤ C) (h0 : 0 ≤ i) (hC : C.natAbs < 2 ^ 400) : i.natAbs < 2 ^ 400 := Nat.lt_of_le_of_lt (by omega) hC
theorem e_product_in (a b : O) (n : Nat) (st : Store) {L M : Nat} {E F C D : Int} (ha : Bd L E C a) (hb : Bd M F D b) (hC : C.natAbs < 2 ^ 400) (hD : D.natAbs < 2 ^ 400) (hl : M * (L + 1) + L + 1 < sizeLine) : (sg.ctx (n + 1)).fn "product_in" [ordP a, ordP b] st = .ok (ordP (prodIn a b)) st := by
  refine fn_eq at_product_in rfl rfl (by simp [freeAll, free_ord]) ?_
  simp only [f_product_in, env0]
  rw [wp_ss]
  cases a with
  | nil =>
    simp [ordP, eqv_00]
    rw [wp_ss]
    simp [prodIn]
    exact frz_free rfl
  | cons p t =>
    obtain ⟨x, y⟩ := p
    have e1 := ord_nil [] ((x, y) :: t)
    simp only [List.map_cons] at e1
    simp [ordP, e1]
    rw [wp_ss]
    simp
    rw [wp_ss]
    simp
    have hx := ha.big (x, y) List.mem_cons_self
    have hy := ha.ok.pos (x, y) List.mem_cons_self
    have hlt := ha.len
    rw [List.length_cons] at hlt
    obtain ⟨I, hI⟩ : ∃ I : O → Iv.Env → Store → Prop, I = fun l env st' => st' = [] ∧ ∃ done u v, done ++ l = b ∧ env = [some (.tup (oP (x, y) :: t.map oP)), some (.tup (b.map oP)), some (ordP (prodIn ((x, y) :: t) done)), u, v] := ⟨_, rfl⟩
    refine wp_loopM (g := oP) I ?_ ?_ b _ _ (by rw [hI]; exact ⟨rfl, [], none, none, rfl, by simp [ordP, prod_nil]⟩)
    · intro z xs env st' h
      rw [hI] at h
      obtain ⟨rfl, done, u, v, hd, rfl⟩ := h
      refine ⟨by simp, ?_⟩
      have hz : z ∈ b := by rw [← hd]; simp
      have z1 := hb.big z hz
      have z2 := hb.ok.pos z hz
      have len : (prodIn ((x, y) :: t) done).length ≤ M * (L + 1) := by
        have q1 := prod_len (x := x) (y := y) (t := t) done
        have q2 : done.length ≤ M := by
          have := hb.len
          rw [← hd, List.length_append] at this
          omega
        exact Nat.le_trans q1 (Nat.mul_le_mul q2 (by omega))
      have step : prodIn ((x, y) :: t) (done ++ [z]) = prodIn ((x, y) :: t) done ++ (if 0 < z.1 then [(x + z.1, z.2)] else (x, y * z.2) :: t) := by
        rw [prod_app, prod_cons, prod_nil, List.append_nil]
      simp [oP]
      rw [wp_ss]
      simp
      have s1 : 1 ≤ sizeLine := by decide
      have s2 : 2 ≤ sizeLine := by decide
      by_cases h0 : 0 < z.1
      · simp [h0, wp_ss, ordP, s1, s2]
        refine ⟨by omega, ?_⟩
        rw [hI]
        refine ⟨rfl, done ++ [z], some (.int z.1), some (.int z.2), by rw [List.append_assoc]; exact hd, ?_⟩
        rw [step, if_pos h0]
        simp [ordP, oP]
      · have hm := mul_ok (small_of hx.2 (Int.le_of_lt hy.2) hC) (small_of z1.2 (Int.le_of_lt z2.2) hD)
        simp [h0, wp_ss, ordP, s1, s2, hm]
        refine ⟨by omega, by omega, ?_⟩
        rw [hI]
        refine ⟨rfl, done ++ [z], some (.int z.1), some (.int z.2), by rw [List.append_assoc]; exact hd, ?_⟩
        rw [step, if_neg h0]
        simp [ordP, oP]
    · intro env st' h
      rw [hI] at h
      obtain ⟨rfl, done, u, v, hd, rfl⟩ := h
      rw [List.append_nil] at hd
      subst hd
      refine ⟨by simp, ?_⟩
      dsimp only
      rw [wp_ss]
      simp [ordP]
theorem e_ordinal_sum (a b : O) (n : Nat) (st : Store) (ha : Okay a) (hb : Okay b) (hl : a.length + b.length < sizeLine) : (sg.ctx (n + 5)).fn "ordinal_sum" [ordP a, ordP b] st = .ok (ordP (sumIn a b)) st := by
  refine fn_eq at_ordinal_sum rfl rfl (by simp [freeAll, free_ord]) ?_
  simp only [f_ordinal_sum, env0]
  have s2 : 2 ≤ sizeLine := by decide
  have h1 : a.length ≤ sizeLine := by omega
  have h2 : b.length ≤ sizeLine := by omega
  rw [wp_ss]
  simp [e_check_ordinals, ha, hb, h1, h2, s2]
  rw [wp_ss]
  simp [e_sum_in, hl]
theorem e_ordinal_product (a b : O) (n : Nat) (st : Store) {L M : Nat} {E F C D : Int} (ha : Bd L E C a) (hb : Bd M F D b) (hC : C.natAbs < 2 ^ 400) (hD : D.natAbs < 2 ^ 400) (hl : M * (L + 1) + L + 1 < sizeLine) (hM : M < sizeLine) : (sg.ctx (n + 5)).fn "ordinal_product" [ordP a, ordP b] st = .ok (ordP (prodIn a b)) st := by
  refine fn_eq at_ordinal_product rfl rfl (by simp [freeAll, free_ord]) ?_
  simp only [f_ordinal_product, env0]
  have s2 : 2 ≤ sizeLine := by decide
  have h1 : a.length ≤ sizeLine := by have := ha.len; omega
  have h2 : b.length ≤ sizeLine := by have := hb.len; omega
  rw [wp_ss]
  simp [e_check_ordinals, ha.ok, hb.ok, h1, h2, s2]
  rw [wp_ss]
  simp [e_product_in a b (n + 3) [] ha hb hC hD hl]
theorem sum_same (e : Int) : ∀ a : O, ((a.filter fun p => p.1 == e).map fun p => p.2).sum = same e a
  | [] => rfl
  | p :: a => by
    have ih := sum_same e a
    rw [List.filter_cons]
    show _ = (if p.1 = e then p.2 else 0) + same e a
    by_cases h : p.1 = e
    · rw [if_pos h, if_pos (by simpa using h), List.map_cons, List.sum_cons, ih]
    · rw [if_neg h, if_neg (by simpa using h), ih, Int.zero_add]
theorem e_plus (a b : O) (n : Nat) (st : Store) (hl : a.length + b.length < sizeLine) : (sg.ctx (n + 1)).fn "_law_plus" [ordP a, ordP b] st = .ok (ordP (sumIn a b)) st := by
  refine fn_eq at__law_plus rfl rfl (by simp [freeAll, free_ord]) ?_
  simp only [f__law_plus, env0]
  rw [wp_ss]
  cases b with
  | nil =>
    simp [ordP, eqv_00]
    rw [wp_ss]
    simp [sumIn]
  | cons p r =>
    obtain ⟨e, c⟩ := p
    have e1 := ord_nil [] ((e, c) :: r)
    simp only [List.map_cons] at e1
    have hal : a.length ≤ sizeLine := by rw [List.length_cons] at hl; omega
    have s1 : 1 ≤ sizeLine := by decide
    have s2 : 2 ≤ sizeLine := by decide
    simp [ordP, e1]
    rw [wp_ss]
    simp [oP]
    rw [comp_if (fun p => p.1 == e) (fun p => .int p.2) a (by simp) (fun x _ => by simp [oP]; split <;> rfl) hal]
    simp [ints_map, s1, s2]
    rw [wp_ss]
    simp
    rw [comp_if (fun p => decide (e < p.1)) oP a (by simp) (fun x _ => by simp [oP]; split <;> rfl) hal]
    have h3 : (over e a).length ≤ a.length := List.length_filter_le _ _
    have h4 : (List.filter (fun p => decide (e < p.1)) a) = over e a := rfl
    have h5 := sum_same e a
    rw [List.length_cons] at hl
    rw [h4, h5]
    simp [s1, s2]
    refine ⟨by omega, by omega, ?_⟩
    rw [Int.add_comm]
    exact (frz_ordT 0 [] (over e a ++ (e, c + same e a) :: r) |> fun z => by simpa [sumIn, oP] using z)
end L2.K46

/-! K46E: ordinals in order, what one lacks to another, division. Own work. -/
namespace L2.K46
open PySem L2.Iv
def ltO : O → O → Bool
  | [], [] => false
  | [], _ :: _ => true
  | _ :: _, [] => false
  | p :: a, q :: b => if p = q then ltO a b else if p.1 = q.1 then decide (p.2 < q.2) else decide (p.1 < q.1)
theorem ltO_same (p : Int × Int) (a b : O) : ltO (p :: a) (p :: b) = ltO a b := if_pos rfl
theorem ltO_coef {e c d : Int} (h : c ≠ d) (a b : O) : ltO ((e, c) :: a) ((e, d) :: b) = decide (c < d) := by
  show (if (e, c) = (e, d) then ltO a b else if e = e then decide (c < d) else decide (e < e)) = _
  rw [if_neg (by simpa using h), if_pos rfl]
theorem ltO_exp {p q : Int × Int} (h : p.1 ≠ q.1) (a b : O) : ltO (p :: a) (q :: b) = decide (p.1 < q.1) := by
  show (if p = q then ltO a b else if p.1 = q.1 then decide (p.2 < q.2) else decide (p.1 < q.1)) = _
  rw [if_neg (fun e => h (by rw [e])), if_neg h]
theorem ltO_app : ∀ (u a b : O), ltO (u ++ a) (u ++ b) = ltO a b
  | [], _, _ => rfl
  | p :: u, a, b => by
    show ltO (p :: (u ++ a)) (p :: (u ++ b)) = _
    rw [ltO_same, ltO_app u a b]
theorem ltO_nil (a : O) : ltO a [] = false := by cases a <;> rfl
theorem ltO_below {x t : O} {e c : Int} (h : ∀ z ∈ x, z.1 < e) : ltO x ((e, c) :: t) = true := by
  cases x with
  | nil => rfl
  | cons p r =>
    have hp := h p List.mem_cons_self
    rw [ltO_exp (by show p.1 ≠ e; omega)]
    exact decide_eq_true hp
/-- what a lacks to b -/
def restO : O → O → O
  | [], b => b
  | _ :: _, [] => []
  | p :: a, q :: b => if p = q then restO a b else if p.1 = q.1 then (q.1, q.2 - p.2) :: b else q :: b
theorem rest_below {u : Int} : ∀ {a b : O}, (∀ z ∈ b, z.1 < u) → ∀ z ∈ restO a b, z.1 < u
  | [], b, h => h
  | _ :: _, [], h => fun z hz => by simp [restO] at hz
  | p :: a, q :: b, h => by
    intro z hz
    unfold restO at hz
    split at hz
    · exact rest_below (fun z hz => h z (List.mem_cons_of_mem _ hz)) z hz
    · split at hz
      · rcases List.mem_cons.mp hz with rfl | hz
        · exact h q List.mem_cons_self
        · exact h z (List.mem_cons_of_mem _ hz)
      · exact h z hz
theorem rest_le {u : Int} : ∀ {a b : O}, (∀ z ∈ b, z.1 ≤ u) → ∀ z ∈ restO a b, z.1 ≤ u := fun h z hz => by
  have := rest_below (u := u + 1) (fun z hz => by have := h z hz; omega) z hz
  omega
theorem rest_ok : ∀ {a b : O}, Okay a → Okay b → ltO b a = false → Okay (restO a b)
  | [], b, _, hb, _ => hb
  | p :: a, [], _, _, h => by cases h
  | p :: a, q :: b, ha, hb, h => by
    unfold restO
    by_cases e : p = q
    · subst e
      rw [if_pos rfl]
      rw [ltO_same] at h
      exact rest_ok ha.tail hb.tail h
    · rw [if_neg e]
      by_cases e1 : p.1 = q.1
      · rw [if_pos e1]
        have hne : q.2 ≠ p.2 := fun z => e (Prod.ext e1 z.symm)
        have hp : p = (q.1, p.2) := Prod.ext e1 rfl
        rw [hp] at h
        have h2 : ltO ((q.1, q.2) :: b) ((q.1, p.2) :: a) = false := h
        rw [ltO_coef hne] at h2
        have h3 := of_decide_eq_false h2
        refine ⟨fun z hz => ?_, List.pairwise_cons.mpr ⟨hb.head, hb.tail.dec⟩⟩
        rcases List.mem_cons.mp hz with rfl | hz
        · exact ⟨(hb.pos q List.mem_cons_self).1, by show 0 < q.2 - p.2; omega⟩
        · exact hb.pos z (List.mem_cons_of_mem _ hz)
      · rw [if_neg e1]
        exact hb
theorem sum_head {p : Int × Int} {a x : O} (h : ∀ z ∈ x, z.1 < p.1) : sumIn (p :: a) x = p :: sumIn a x := by
  cases x with
  | nil => rfl
  | cons q r =>
    have hq := h q List.mem_cons_self
    show over q.1 (p :: a) ++ (q.1, q.2 + same q.1 (p :: a)) :: r = p :: (over q.1 a ++ (q.1, q.2 + same q.1 a) :: r)
    have e1 : over q.1 (p :: a) = p :: over q.1 a := by
      unfold over
      rw [List.filter_cons, if_pos (decide_eq_true hq)]
    have e2 : same q.1 (p :: a) = same q.1 a := by
      show (if p.1 = q.1 then p.2 else 0) + same q.1 a = _
      rw [if_neg (by omega), Int.zero_add]
    rw [e1, e2]
    rfl
theorem rest_sum : ∀ {a b : O}, Okay a → Okay b → ltO b a = false → sumIn a (restO a b) = b
  | [], b, _, _, _ => sum_nil_left b
  | p :: a, [], _, _, h => by cases h
  | p :: a, q :: b, ha, hb, h => by
    unfold restO
    by_cases e : p = q
    · subst e
      rw [if_pos rfl]
      rw [ltO_same] at h
      rw [sum_head (rest_below hb.head), rest_sum ha.tail hb.tail h]
    · rw [if_neg e]
      have low : ∀ {f : Int}, p.1 ≤ f → over f (p :: a) = [] := fun {f} hf => over_none fun z hz => by
        rcases List.mem_cons.mp hz with rfl | hz
        · exact hf
        · have := ha.head z hz; omega
      by_cases e1 : p.1 = q.1
      · rw [if_pos e1]
        show over q.1 (p :: a) ++ (q.1, q.2 - p.2 + same q.1 (p :: a)) :: b = q :: b
        have e2 : same q.1 (p :: a) = p.2 := by
          show (if p.1 = q.1 then p.2 else 0) + same q.1 a = _
          rw [if_pos e1, same_none fun z hz => by have := ha.head z hz; omega, Int.add_zero]
        rw [low (by omega), e2, Int.sub_add_cancel]
        rfl
      · rw [if_neg e1]
        have hne : q.1 ≠ p.1 := fun z => e1 z.symm
        rw [ltO_exp hne] at h
        have h3 := of_decide_eq_false h
        show over q.1 (p :: a) ++ (q.1, q.2 + same q.1 (p :: a)) :: b = q :: b
        have e2 : same q.1 (p :: a) = 0 := same_none fun z hz => by
          rcases List.mem_cons.mp hz with rfl | hz
          · exact e1
          · have := ha.head z hz; omega
        rw [low (by omega), e2, Int.add_zero]
        rfl
theorem sum_cancel {a : O} : ∀ {x y : O}, Okay x → Okay y → sumIn a x = sumIn a y → x = y := by
  have at_head : ∀ {f d : Int} {s : O}, Okay ((f, d) :: s) → same f (sumIn a ((f, d) :: s)) = d + same f a := fun {f d s} h => by
    show same f (over f a ++ (f, d + same f a) :: s) = _
    rw [same_app, same_none fun z hz => by have := (over_mem.mp hz).2; omega]
    show 0 + ((if f = f then d + same f a else 0) + same f s) = _
    rw [if_pos rfl, same_none (a := s) (e := f) fun z hz => by have := h.head z hz; have : z.1 < f := this; omega]
    omega
  have above : ∀ {e c f : Int} {r : O}, Okay ((e, c) :: r) → e < f → same f (sumIn a ((e, c) :: r)) = same f a := fun {e c f r} h hef => by
    show same f (over e a ++ (e, c + same e a) :: r) = _
    rw [same_app, same_over hef]
    show same f a + ((if e = f then c + same e a else 0) + same f r) = _
    rw [if_neg (by omega), same_none (a := r) (e := f) fun z hz => by have := h.head z hz; have : z.1 < e := this; omega]
    omega
  intro x y hx hy h
  cases x with
  | nil =>
    cases y with
    | nil => rfl
    | cons q s =>
      have h1 := at_head (f := q.1) (d := q.2) hy
      have h2 := (hy.pos q List.mem_cons_self).2
      have h : a = sumIn a (q :: s) := h
      rw [← h] at h1
      omega
  | cons p r =>
    cases y with
    | nil =>
      have h1 := at_head (f := p.1) (d := p.2) hx
      have h2 := (hx.pos p List.mem_cons_self).2
      have h : sumIn a (p :: r) = a := h
      rw [h] at h1
      omega
    | cons q s =>
      obtain ⟨e, c⟩ := p
      obtain ⟨f, d⟩ := q
      have hc := (hx.pos (e, c) List.mem_cons_self).2
      have hd := (hy.pos (f, d) List.mem_cons_self).2
      have hc : 0 < c := hc
      have hd : 0 < d := hd
      rcases Int.lt_trichotomy e f with k | k | k
      · have h1 := at_head hy
        have h2 := above hx k
        rw [h] at h2
        omega
      · subst k
        have h : over e a ++ (e, c + same e a) :: r = over e a ++ (e, d + same e a) :: s := h
        have h := List.append_cancel_left h
        injection h with h1 h2
        injection h1 with _ h3
        have : c = d := by omega
        rw [this, h2]
      · have h1 := at_head hx
        have h2 := above hy k
        rw [← h] at h2
        omega
/-! ### division -/
theorem split_over {e : Int} : ∀ {b : O}, Okay b → b = over e b ++ b.drop (over e b).length ∧ ∀ p ∈ b.drop (over e b).length, p.1 ≤ e
  | [], _ => ⟨rfl, fun p hp => by simp at hp⟩
  | p :: b, h => by
    by_cases hp : e < p.1
    · have e1 : over e (p :: b) = p :: over e b := by
        unfold over
        rw [List.filter_cons, if_pos (decide_eq_true hp)]
      obtain ⟨h1, h2⟩ := split_over (e := e) h.tail
      rw [e1]
      refine ⟨?_, h2⟩
      show p :: b = p :: (over e b ++ b.drop (over e b).length)
      rw [← h1]
    · have e1 : over e (p :: b) = [] := over_none fun z hz => by
        rcases List.mem_cons.mp hz with rfl | hz
        · omega
        · have := h.head z hz; omega
      rw [e1]
      refine ⟨rfl, fun z hz => ?_⟩
      rcases List.mem_cons.mp hz with rfl | hz
      · omega
      · have := h.head z hz; omega
def manyO (e c : Int) (t left : O) : Int := match left with
  | [] => 0
  | (f, m) :: w => if f = e then (if 0 < m / c ∧ ltO ((f, m) :: w) ((e, c * (m / c)) :: t) = true then m / c - 1 else m / c) else 0
def ownO (e c : Int) (t : O) (many : Int) : O := if 0 < many then (e, c * many) :: t else []
theorem many_facts {e c : Int} {t left : O} (hc : 0 < c) (hl : ∀ p ∈ left, p.1 ≤ e ∧ 0 < p.2) : 0 ≤ manyO e c t left ∧ ltO left (ownO e c t (manyO e c t left)) = false ∧ ltO left ((e, c * (manyO e c t left + 1)) :: t) = true := by
  cases left with
  | nil =>
    refine ⟨Int.le_refl _, ?_, rfl⟩
    show ltO [] (ownO e c t 0) = false
    unfold ownO
    rw [if_neg (by omega)]; rfl
  | cons p w =>
    obtain ⟨f, m⟩ := p
    have hp := hl (f, m) List.mem_cons_self
    have hf : f ≤ e := hp.1
    have hm : 0 < m := hp.2
    have none' : ∀ {k : Int}, k = 0 → ltO ((f, m) :: w) (ownO e c t k) = false := fun {k} hk => by
      subst hk
      unfold ownO
      rw [if_neg (by omega)]; rfl
    by_cases he : f = e
    · subst he
      have hdef : manyO f c t ((f, m) :: w) = if 0 < m / c ∧ ltO ((f, m) :: w) ((f, c * (m / c)) :: t) = true then m / c - 1 else m / c := if_pos rfl
      have d1 : c * (m / c) ≤ m := by have := Int.mul_ediv_add_emod m c; have := Int.emod_nonneg m (show c ≠ 0 by omega); omega
      have d2 : m < c * (m / c) + c := by have := Int.mul_ediv_add_emod m c; have := Int.emod_lt_of_pos m hc; omega
      have d0 : 0 ≤ m / c := Int.ediv_nonneg (by omega) (by omega)
      rw [hdef]
      by_cases k : 0 < m / c ∧ ltO ((f, m) :: w) ((f, c * (m / c)) :: t) = true
      · rw [if_pos k]
        have ex : c * (m / c - 1) = c * (m / c) - c := by rw [Int.mul_sub, Int.mul_one]
        refine ⟨by omega, ?_, by rw [Int.sub_add_cancel]; exact k.2⟩
        by_cases h0 : 0 < m / c - 1
        · unfold ownO
          rw [if_pos h0, ltO_coef (by omega)]
          exact decide_eq_false (by omega)
        · exact none' (by omega)
      · rw [if_neg k]
        refine ⟨d0, ?_, ?_⟩
        · by_cases h0 : 0 < m / c
          · unfold ownO
            rw [if_pos h0]
            cases z : ltO ((f, m) :: w) ((f, c * (m / c)) :: t) with
            | false => rfl
            | true => exact absurd ⟨h0, z⟩ k
          · exact none' (by omega)
        · rw [Int.mul_add, Int.mul_one, ltO_coef (by omega)]
          exact decide_eq_true d2
    · have hdef : manyO e c t ((f, m) :: w) = 0 := if_neg he
      rw [hdef]
      refine ⟨Int.le_refl _, none' rfl, ?_⟩
      rw [ltO_exp he]
      exact decide_eq_true (by show f < e; omega)
theorem left_less {e c many : Int} {t left : O} (hc : 0 < c) (hl : Okay left) (hle : ∀ p ∈ left, p.1 ≤ e) (h0 : 0 ≤ many) (h1 : ltO left (ownO e c t many) = false) (h2 : ltO left ((e, c * (many + 1)) :: t) = true) :
    ltO (restO (ownO e c t many) left) ((e, c) :: t) = true := by
  unfold ownO at h1 ⊢
  by_cases hm : 0 < many
  · rw [if_pos hm] at h1 ⊢
    cases left with
    | nil => cases h1
    | cons p w =>
      obtain ⟨f, m⟩ := p
      have hf : f ≤ e := hle (f, m) List.mem_cons_self
      by_cases he : f = e
      · subst he
        rw [Int.mul_add, Int.mul_one] at h2
        by_cases hmc : m = c * many
        · subst hmc
          show ltO (if (f, c * many) = (f, c * many) then restO t w else _) _ = true
          rw [if_pos rfl]
          exact ltO_below (rest_below hl.head)
        · rw [ltO_coef hmc] at h1
          have h1 := of_decide_eq_false h1
          show ltO (if (f, c * many) = (f, m) then restO t w else if f = f then (f, m - c * many) :: w else (f, m) :: w) _ = true
          rw [if_neg (by intro z; injection z with _ z; exact hmc z.symm), if_pos rfl]
          by_cases hk : m = c * many + c
          · subst hk
            rw [ltO_same] at h2
            have e1 : c * many + c - c * many = c := by omega
            rw [e1, ltO_same]
            exact h2
          · rw [ltO_coef hk] at h2
            have h2 := of_decide_eq_true h2
            rw [ltO_coef (by omega)]
            exact decide_eq_true (by omega)
      · rw [ltO_exp he] at h1
        have h1 := of_decide_eq_false h1
        have h1 : ¬ f < e := h1
        omega
  · rw [if_neg hm] at h1 ⊢
    have : many = 0 := by omega
    subst this
    rw [Int.zero_add, Int.mul_one] at h2
    exact h2
def quotO (e : Int) (b : O) (many : Int) : O := (over e b).map (fun p => (p.1 - e, p.2)) ++ (if 0 < many then [(0, many)] else [])
theorem prod_quot {e c many : Int} {t b : O} : prodIn ((e, c) :: t) (quotO e b many) = over e b ++ ownO e c t many := by
  unfold quotO ownO
  rw [prod_app]
  congr 1
  · have : ∀ l : O, (∀ p ∈ l, e < p.1) → prodIn ((e, c) :: t) (l.map fun p => (p.1 - e, p.2)) = l := by
      intro l
      induction l with
      | nil => intro _; rfl
      | cons p l ih =>
        intro h
        have hp := h p List.mem_cons_self
        rw [List.map_cons, prod_cons, if_pos (by show 0 < p.1 - e; omega), ih fun q hq => h q (List.mem_cons_of_mem _ hq)]
        show (e + (p.1 - e), p.2) :: l = p :: l
        have : e + (p.1 - e) = p.1 := by omega
        rw [this]
    exact this _ fun p hp => (over_mem.mp hp).2
  · by_cases hm : 0 < many
    · rw [if_pos hm, if_pos hm, prod_cons, if_neg (by show ¬ (0 : Int) < 0; omega), prod_nil, List.append_nil]
    · rw [if_neg hm, if_neg hm]
      rfl
theorem quot_more {e many : Int} {b : O} (h0 : 0 ≤ many) : sumIn (quotO e b many) [(0, 1)] = quotO e b (many + 1) := by
  have pos : ∀ p ∈ (over e b).map (fun p => (p.1 - e, p.2)), (0 : Int) < p.1 := fun p hp => by
    obtain ⟨q, hq, rfl⟩ := List.mem_map.mp hp
    have := (over_mem.mp hq).2
    show 0 < q.1 - e
    omega
  unfold quotO
  rw [if_pos (show 0 < many + 1 by omega)]
  show over 0 (_ ++ _) ++ [(0, 1 + same 0 (_ ++ _))] = _
  rw [over_app, same_app, over_all pos, same_none fun p hp => by have := pos p hp; omega]
  by_cases hm : 0 < many
  · rw [if_pos hm, over_none (e := 0) (a := [((0 : Int), many)]) (fun p hp => by rw [List.mem_singleton] at hp; subst hp; exact Int.le_refl _)]
    show _ ++ [] ++ [(0, 1 + (0 + ((if (0 : Int) = 0 then many else 0) + 0)))] = _
    rw [if_pos rfl, List.append_nil]
    have : (1 + (0 + (many + 0)) : Int) = many + 1 := by omega
    rw [this]
  · have : many = 0 := by omega
    subst this
    rw [if_neg hm]
    show _ ++ [] ++ [(0, 1 + (0 + 0))] = _
    rw [List.append_nil]
    rfl
theorem mult_more {e c many : Int} {t b : O} (ha : Okay ((e, c) :: t)) (h0 : 0 ≤ many) : sumIn (over e b ++ ownO e c t many) ((e, c) :: t) = over e b ++ ownO e c t (many + 1) := by
  unfold ownO
  rw [if_pos (show 0 < many + 1 by omega)]
  show over e (_ ++ _) ++ (e, c + same e (_ ++ _)) :: t = _
  rw [over_app, same_app, over_over b (Int.le_refl _), same_none fun p hp => by have := (over_mem.mp hp).2; omega]
  by_cases hm : 0 < many
  · have n1 : over e ((e, c * many) :: t) = [] := over_none fun p hp => by
      rcases List.mem_cons.mp hp with rfl | hp
      · exact Int.le_refl _
      · have := ha.head p hp; have : p.1 < e := this; omega
    have n2 : same e ((e, c * many) :: t) = c * many := by
      show (if e = e then c * many else 0) + same e t = _
      rw [if_pos rfl, same_none fun q hq => by have := ha.head q hq; have : q.1 < e := this; omega, Int.add_zero]
    rw [if_pos hm, n1, n2, List.append_nil, Int.mul_add, Int.mul_one]
    have : c + (0 + c * many) = c * many + c := by omega
    rw [this]
  · have : many = 0 := by omega
    subst this
    rw [if_neg hm]
    show over e b ++ [] ++ (e, c + (0 + 0)) :: t = _
    simp
theorem mult_rest {e c many : Int} {t b : O} (ha : Okay ((e, c) :: t)) (hc : 0 < c) (hb : Okay b) (h1 : ltO (b.drop (over e b).length) (ownO e c t many) = false) :
    sumIn (over e b ++ ownO e c t many) (restO (ownO e c t many) (b.drop (over e b).length)) = b := by
  obtain ⟨s1, s2⟩ := split_over (e := e) hb
  have hown : Okay (ownO e c t many) := by
    unfold ownO
    split
    · rename_i hm
      refine ⟨fun p hp => ?_, List.pairwise_cons.mpr ⟨ha.head, ha.tail.dec⟩⟩
      rcases List.mem_cons.mp hp with rfl | hp
      · exact ⟨(ha.pos (e, c) List.mem_cons_self).1, Int.mul_pos hc hm⟩
      · exact ha.pos p (List.mem_cons_of_mem _ hp)
    · exact Okay.nil
  have hleft : Okay (b.drop (over e b).length) := ⟨fun p hp => hb.pos p (List.mem_of_mem_drop hp), List.Pairwise.sublist (List.drop_sublist _ _) hb.dec⟩
  have glue : ∀ x : O, (∀ z ∈ x, z.1 ≤ e) → sumIn (over e b ++ ownO e c t many) x = over e b ++ sumIn (ownO e c t many) x := by
    intro x hx
    cases x with
    | nil => rfl
    | cons q r =>
      have hq := hx q List.mem_cons_self
      show over q.1 (_ ++ _) ++ (q.1, q.2 + same q.1 (_ ++ _)) :: r = over e b ++ (over q.1 _ ++ (q.1, q.2 + same q.1 _) :: r)
      rw [over_app, same_app, same_none fun p hp => by have := (over_mem.mp hp).2; omega, over_all fun p hp => by have := (over_mem.mp hp).2; omega, Int.zero_add, List.append_assoc]
  rw [glue _ (rest_le s2), rest_sum hown hleft h1]
  exact s1.symm
end L2.K46

/-! K46F: what is drawn. Own work. -/
namespace L2.K46
open PySem L2.Iv
/-- a source: its own number, the mixed one, how often it was mixed -/
def Src (b : Int) (xs : List PV) : Prop := ∃ x y z : Int, xs = [.int x, .int y, .int z] ∧ 0 ≤ y ∧ y < 10 ^ 28 ∧ 0 ≤ z ∧ z ≤ b
theorem Src.free {b : Int} {xs : List PV} (h : Src b xs) : freeAll xs = true := by
  obtain ⟨x, y, z, rfl, _⟩ := h
  rfl
theorem Src.mono {b c : Int} {xs : List PV} (h : Src b xs) (hc : b ≤ c) : Src c xs := by
  obtain ⟨x, y, z, h1, h2, h3, h4, h5⟩ := h
  exact ⟨x, y, z, h1, h2, h3, h4, by omega⟩
theorem nat_lt {i C : Int} (h0 : 0 ≤ i) (h : i < C) (hC : C ≤ 2 ^ 400) : i.natAbs < 2 ^ 400 := by
  have : (i.natAbs : Int) = i := by omega
  have h2 : (i.natAbs : Int) < 2 ^ 400 := by omega
  exact_mod_cast h2
theorem w_draw {b : Int} {i : Nat} {xs : List PV} {many : Int} {n : Nat} {st : Store} {Q : PV → Store → Prop} (hs : Src b xs) (hi : st[i]? = some xs) (hb : b < 10 ^ 9) (h0 : 0 < many) (h1 : many < 10 ^ 10)
    (k : ∀ v ys, 0 ≤ v → v < many → Src (b + 1) ys → Q (.int v) (st.set i ys)) : wpO ((sg.ctx (n + 1)).fn "_law_draw" [.loc i, .int many] st) Q := by
  refine wp_fn1 at__law_draw rfl rfl rfl hi hs.free ?_
  obtain ⟨x, y, z, rfl, y0, y1, z0, z1⟩ := hs
  have lm : many.natAbs.log2 < 9000 := by
    have h2 : many.natAbs < 2 ^ 9000 := Nat.lt_of_lt_of_le (show many.natAbs < 2 ^ 34 by omega) (Nat.pow_le_pow_right (by decide) (by decide))
    by_cases h3 : many.natAbs = 0
    · omega
    · exact (Nat.log2_lt h3).mpr h2
  simp only [f__law_draw, env0]
  rw [wp_ss]
  simp
  by_cases hx : 0 < x
  · simp [hx]
    rw [wp_ss]
    simp [h0]
    rw [wp_ss]
    simp [h0, lm, ixN_nn]
    rw [wp_ss]
    simp [freeAll, PV.free]
    refine k _ _ (Int.emod_nonneg _ (by omega)) (Int.emod_lt_of_pos _ h0) ⟨_, _, _, rfl, y0, y1, z0, by omega⟩
  · have mz := mul_ok (nat_lt (i := z + 1) (C := 10 ^ 10) (by omega) (by omega) (by decide)) (nat_lt (i := z + 1) (C := 10 ^ 10) (by omega) (by omega) (by decide))
    have my := mul_ok (nat_lt y0 y1 (by decide)) (show (2330130241 : Int).natAbs < 2 ^ 400 by decide)
    have mz2 := mul_ok (nat_lt (i := (z + 1) * (z + 1)) (C := 10 ^ 21) (Int.mul_nonneg (by omega) (by omega)) (by
      have q := Int.mul_le_mul (show z + 1 ≤ 10 ^ 10 by omega) (show z + 1 ≤ 10 ^ 10 by omega) (show 0 ≤ z + 1 by omega) (by decide)
      omega) (by decide)) (show (69621 : Int).natAbs < 2 ^ 400 by decide)
    simp [hx]
    rw [wp_ss]
    simp [ixN_nn]
    rw [wp_ss]
    simp [ixN_nn, mz, my, mz2]
    rw [wp_ss]
    simp [h0, freeAll, PV.free]
    refine ⟨by simpa using my, by simpa using mz2, by decide, k _ _ (Int.emod_nonneg _ (by omega)) (Int.emod_lt_of_pos _ h0) ⟨_, _, _, rfl, Int.emod_nonneg _ (by decide), Int.lt_trans (Int.emod_lt_of_pos _ (by decide)) (by decide), by omega, by omega⟩⟩
theorem w_ordinal {b : Int} {i : Nat} {xs : List PV} {n : Nat} {st : Store} {Q : PV → Store → Prop} {M : Int} (hM0 : 0 < M) (hM1 : M < 16) (hs : Src b xs) (hi : st[i]? = some xs) (hb : b + 50 < 10 ^ 9) (hb0 : 0 ≤ b)
    (k : ∀ a ys, Bd 5 (M - 1) (10 ^ 9) a → Src (b + 50) ys → Q (ordP a) (st.set i ys)) : wpO ((sg.ctx (n + 2)).fn "_law_ordinal" [.loc i, .int M] st) Q := by
  refine wp_fn1 at__law_ordinal rfl rfl rfl hi hs.free ?_
  have s2 : 2 ≤ sizeLine := by decide
  simp only [f__law_ordinal, env0]
  rw [wp_ss]
  simp
  rw [wp_ss]
  simp
  rw [rng3_ok (by omega) (by omega) (by omega) (by omega), wp_ok]
  obtain ⟨I, hI⟩ : ∃ I : Nat → Iv.Env → Store → Prop, I = fun (j : Nat) (env : Iv.Env) (st' : Store) => ∃ (ys : List PV) (acc : O) (u w : Option PV), st' = [ys, acc.map oP] ∧ env = [some (PV.loc 0), some (PV.int M), some (PV.loc 1), u, w] ∧ Src (b + 3 * (j : Int)) ys ∧ Bd 5 (M - 1) (10 ^ 9) acc ∧ ∀ p ∈ acc, M - 1 - (j : Int) < p.1 := ⟨_, rfl⟩
  refine wp_rng I ?_ ?_ _ _ (by
    rw [hI]
    exact ⟨xs, [], none, none, rfl, rfl, by simpa using hs, ⟨Okay.nil, by simp, fun p hp => absurd hp (by simp)⟩, fun p hp => absurd hp (by simp)⟩)
  · intro j env st' hj hh
    rw [hI] at hh
    obtain ⟨ys, acc, u, w, rfl, rfl, hs2, hB, hab⟩ := hh
    have hj2 : (j : Int) < M := by omega
    have hal := hB.len
    have stay : ∀ (ys' : List PV) (u w : Option PV), Src (b + 3 * (j + 1 : Nat)) ys' → I (j + 1) [some (.loc 0), some (.int M), some (.loc 1), u, w] [ys', acc.map oP] := fun ys' u w hs => by
      rw [hI]
      exact ⟨ys', acc, u, w, rfl, rfl, hs, hB, fun p hp => by have := hab p hp; omega⟩
    simp
    rw [wp_ss]
    simp
    by_cases h5 : acc.length < 5
    · have h5' : (acc.length : Int) < 5 := by omega
      simp [h5, h5']
      refine w_draw hs2 rfl (by omega) (by decide) (by decide) fun t ys2 t0 t1 hs3 => ?_
      simp
      by_cases ht : 0 < t
      · simp [ht]
        rw [wp_ss]
        simp
        refine ⟨by decide, ?_⟩
        refine w_draw hs3 rfl (by omega) (by decide) (by decide) fun q ys3 q0 q1 hs4 => ?_
        have sizes : ∃ sz : Int, L2.atI [PV.int 2, PV.int 40, PV.int 999999999] q = some (.int sz) ∧ 0 < sz ∧ sz < 10 ^ 9 := by
          have : q = 0 ∨ q = 1 ∨ q = 2 := by omega
          rcases this with rfl | rfl | rfl
          · exact ⟨2, rfl, by decide, by decide⟩
          · exact ⟨40, rfl, by decide, by decide⟩
          · exact ⟨999999999, rfl, by decide, by decide⟩
        obtain ⟨sz, hsz, sz0, sz1⟩ := sizes
        simp [hsz]
        rw [wp_ss]
        simp
        refine w_draw hs4 rfl (by omega) sz0 (by omega) fun c ys4 c0 c1 hs5 => ?_
        have hs6 : acc.length < sizeLine := Nat.lt_trans h5 (by decide)
        simp [s2, hs6]
        rw [hI]
        have he : (M - 1 + -(j : Int)) = M - 1 - j := by omega
        rw [he]
        refine ⟨ys4, acc ++ [(M - 1 - j, 1 + c)], _, _, by rw [List.map_append]; rfl, rfl, hs5.mono (by omega), ⟨⟨fun p hp => ?_, List.pairwise_append.mpr ⟨hB.ok.dec, List.pairwise_singleton _ _, fun p hp p2 hp2 => ?_⟩⟩, ?_, fun p hp => ?_⟩, fun p hp => ?_⟩
        · rcases List.mem_append.mp hp with hp | hp
          · exact hB.ok.pos p hp
          · rw [List.mem_singleton] at hp
            subst hp
            exact ⟨by show 0 ≤ M - 1 - (j : Int); omega, by show 0 < 1 + c; omega⟩
        · rw [List.mem_singleton] at hp2
          subst hp2
          have := hab p hp
          show M - 1 - (j : Int) < p.1
          omega
        · rw [List.length_append, List.length_singleton]; omega
        · rcases List.mem_append.mp hp with hp | hp
          · exact hB.big p hp
          · rw [List.mem_singleton] at hp
            subst hp
            exact ⟨by show M - 1 - (j : Int) ≤ M - 1; omega, by show 1 + c ≤ 10 ^ 9; omega⟩
        · rcases List.mem_append.mp hp with hp | hp
          · have := hab p hp
            omega
          · rw [List.mem_singleton] at hp
            subst hp
            show M - 1 - ((j + 1 : Nat) : Int) < M - 1 - j
            omega
      · simp [ht]
        exact stay _ _ _ (hs3.mono (by omega))
    · have h5' : ¬ (acc.length : Int) < 5 := by omega
      simp [h5, h5']
      exact stay _ _ _ (hs2.mono (by omega))
  · intro env st' hh
    rw [hI] at hh
    obtain ⟨ys, acc, u, w, rfl, rfl, hs2, hB, hab⟩ := hh
    dsimp only
    rw [wp_ss]
    simp
    have hf := hs2.free
    exact ⟨hf, k acc ys hB (hs2.mono (by omega))⟩
end L2.K46

/-! K46G: the order of the data, drawn neighbours. Own work. -/
namespace L2.K46
open PySem L2.Iv
theorem toD_oP (p : Int × Int) : (oP p).toD = .tuple [.int p.1, .int p.2] := rfl
theorem toD_ord (a : O) : (ordP a).toD = .tuple (a.map fun p => (oP p).toD) := by
  show PyData.tuple (toDs (a.map oP)) = _
  rw [toDs_map, List.map_map]
  rfl
theorem like_oP (p q : Int × Int) : PySem.W.alike (oP p).toD (oP q).toD = true := rfl
theorem like_all : ∀ a b : O, PySem.W.alikeAll (a.map fun p => (oP p).toD) (b.map fun p => (oP p).toD) = true
  | [], _ => by unfold PySem.W.alikeAll; rfl
  | _ :: _, [] => by unfold PySem.W.alikeAll; rfl
  | p :: a, q :: b => by
    show (PySem.W.alike (oP p).toD (oP q).toD && PySem.W.alikeAll _ _) = true
    rw [like_oP, like_all a b]; rfl
theorem like_ord (a b : O) : PySem.W.alike (ordP a).toD (ordP b).toD = true := by
  rw [toD_ord, toD_ord]
  exact like_all a b
theorem eqv_oP (p q : Int × Int) : PyData.eqv (oP p).toD (oP q).toD = decide (p = q) := by
  show (p.1 == q.1 && (p.2 == q.2 && true)) = _
  rw [Bool.eq_iff_iff, Bool.and_true, Bool.and_eq_true, beq_iff_eq, beq_iff_eq, decide_eq_true_eq]
  exact ⟨fun h => Prod.ext h.1 h.2, fun h => by rw [h]; exact ⟨rfl, rfl⟩⟩
theorem eqv_all : ∀ a b : O, PyData.eqvAll (a.map fun p => (oP p).toD) (b.map fun p => (oP p).toD) = decide (a = b)
  | [], [] => rfl
  | [], _ :: _ => rfl
  | _ :: _, [] => rfl
  | p :: a, q :: b => by
    show (PyData.eqv (oP p).toD (oP q).toD && PyData.eqvAll _ _) = _
    rw [eqv_oP, eqv_all a b, Bool.eq_iff_iff, Bool.and_eq_true, decide_eq_true_eq, decide_eq_true_eq, decide_eq_true_eq, List.cons.injEq]
theorem fit_ord (a : O) : fit 64 (ordP a) = true := fits_ord a 62
theorem eqv_ord (st : Store) (a b : O) : eqvV st (ordP a) (ordP b) = some (decide (a = b)) := by
  rw [eqv_fit (fit_ord a) (fit_ord b), toD_ord, toD_ord]
  exact congrArg some (eqv_all a b)
theorem eqv_pair (st : Store) (p q : Int × Int) : eqvV st (oP p) (oP q) = some (decide (p = q)) := by
  rw [eqv_fit rfl rfl]
  exact congrArg some (eqv_oP p q)
theorem eqv_bls (st : Store) (a b : Bool) : eqvV st (.bl a) (.bl b) = some (a == b) := by rw [eqv_fit rfl rfl]; rfl
theorem lt_oP (p q : Int × Int) : PySem.W.dataLt (oP p).toD (oP q).toD = if p.1 = q.1 then decide (p.2 < q.2) else decide (p.1 < q.1) := by
  rw [toD_oP, toD_oP, PySem.W.dataLt_tuple]
  by_cases h : p.1 = q.1
  · rw [if_pos h, PySem.W.dataLt_all_yes rfl (by show (p.1 == q.1) = true; simpa using h)]
    by_cases h2 : p.2 = q.2
    · rw [PySem.W.dataLt_all_yes rfl (by show (p.2 == q.2) = true; simpa using h2), h2]
      have : decide (q.2 < q.2) = false := decide_eq_false (by omega)
      rw [this]
      exact PyProof.Rows.lex_irrefl _
    · rw [PySem.W.dataLt_all_no rfl (by show (p.2 == q.2) = false; simpa using h2), PySem.W.dataLt_int]
  · rw [if_neg h, PySem.W.dataLt_all_no rfl (by show (p.1 == q.1) = false; simpa using h), PySem.W.dataLt_int]
theorem lt_all : ∀ a b : O, PyProof.Rows.lexLt PyProof.Rows.itemOrd (PySem.W.keyToksAll (a.map fun p => (oP p).toD)) (PySem.W.keyToksAll (b.map fun p => (oP p).toD)) = ltO a b
  | [], [] => PyProof.Rows.lex_irrefl _
  | [], q :: b => by
    rw [List.map_nil, List.map_cons, PySem.W.toks_all_cons]
    unfold PySem.W.keyToksAll
    rw [PyProof.Rows.lex_diff (by intro z; cases z)]
    rfl
  | p :: a, [] => by
    rw [List.map_nil, List.map_cons, PySem.W.toks_all_cons]
    unfold PySem.W.keyToksAll
    rw [PyProof.Rows.lex_diff (by intro z; cases z)]
    rfl
  | p :: a, q :: b => by
    rw [List.map_cons, List.map_cons]
    by_cases h : p = q
    · rw [PySem.W.dataLt_all_yes (like_oP p q) (by rw [eqv_oP]; exact decide_eq_true h), lt_all a b]
      subst h
      rw [ltO_same]
    · rw [PySem.W.dataLt_all_no (like_oP p q) (by rw [eqv_oP]; exact decide_eq_false h), lt_oP]
      show _ = if p = q then ltO a b else _
      rw [if_neg h]
theorem lt_ord (a b : O) : ltP (ordP a) (ordP b) = some (ltO a b) := by
  unfold ltP
  have d : ∀ a : O, (ordP a).toD.depth ≤ 64 := fun a => (fit_ok (ordP a) 64 (fit_ord a)).2.2
  rw [if_pos]
  · rw [toD_ord, toD_ord, PySem.W.dataLt_tuple, lt_all]
  · unfold alikeP
    rw [free_ord, free_ord, like_ord, like_ord, like_ord, like_ord, decide_eq_true (d a), decide_eq_true (d b)]
    rfl
theorem ltO_irrefl : ∀ a : O, ltO a a = false
  | [] => rfl
  | p :: a => by rw [ltO_same, ltO_irrefl a]
theorem ltO_asymm : ∀ {a b : O}, ltO a b = true → ltO b a = false
  | [], [], h => by cases h
  | [], _ :: _, _ => rfl
  | _ :: _, [], h => by cases h
  | p :: a, q :: b, h => by
    by_cases e : p = q
    · subst e
      rw [ltO_same] at h ⊢
      exact ltO_asymm h
    · have h : (if p = q then ltO a b else if p.1 = q.1 then decide (p.2 < q.2) else decide (p.1 < q.1)) = true := h
      rw [if_neg e] at h
      show (if q = p then ltO b a else if q.1 = p.1 then decide (q.2 < p.2) else decide (q.1 < p.1)) = false
      rw [if_neg (fun z => e z.symm)]
      by_cases e1 : p.1 = q.1
      · rw [if_pos e1] at h
        rw [if_pos e1.symm]
        have := of_decide_eq_true h
        exact decide_eq_false (by omega)
      · rw [if_neg e1] at h
        rw [if_neg (fun z => e1 z.symm)]
        have := of_decide_eq_true h
        exact decide_eq_false (by omega)
theorem c_ltT {st : Store} {xs ys : List PV} : cmpV .lt st (.tup xs) (.tup ys) = ltP (.tup xs) (.tup ys) := rfl
theorem c_gtT {st : Store} {xs ys : List PV} : cmpV .gt st (.tup xs) (.tup ys) = ltP (.tup ys) (.tup xs) := rfl
theorem bi_minT {fr : Bool} {st : Store} {xs ys : List PV} : biV .min2 fr st [.tup xs, .tup ys] = match ltP (.tup ys) (.tup xs) with
    | some b => .ok (if b = true then .tup ys else .tup xs) st
    | none => .bad := rfl
theorem bi_maxT {fr : Bool} {st : Store} {xs ys : List PV} : biV .max2 fr st [.tup xs, .tup ys] = match ltP (.tup xs) (.tup ys) with
    | some b => .ok (if b = true then .tup ys else .tup xs) st
    | none => .bad := rfl
theorem cut_last (u : List PV) (v : PV) : cutP (u ++ [v]) none (some (-1)) = u := by
  unfold cutP HT.sIx
  simp
  rw [show (-1 + ((u.length : Int) + 1)).toNat = u.length by omega]
  exact List.take_left
theorem cut_last0 : cutP [] none (some (-1)) = [] := rfl
theorem at_last (u : List PV) (v : PV) : L2.atI (u ++ [v]) (-1) = some v := L2.atI_last u v

theorem near_ok {u : O} {z : Int × Int} (h : Okay (u ++ [z])) : Okay u ∧ (∀ p ∈ u, z.1 < p.1) ∧ 0 ≤ z.1 ∧ 0 < z.2 := by
  have hd := List.pairwise_append.mp h.dec
  have hz := h.pos z (by simp)
  exact ⟨⟨fun p hp => h.pos p (List.mem_append_left _ hp), hd.1⟩, fun p hp => hd.2.2 p hp z (by simp), hz⟩
theorem ok_snoc {u : O} {z : Int × Int} (h : Okay u) (ha : ∀ p ∈ u, z.1 < p.1) (h1 : 0 ≤ z.1) (h2 : 0 < z.2) : Okay (u ++ [z]) :=
  ⟨fun p hp => by
    rcases List.mem_append.mp hp with hp | hp
    · exact h.pos p hp
    · rw [List.mem_singleton] at hp; subst hp; exact ⟨h1, h2⟩, List.pairwise_append.mpr ⟨h.dec, List.pairwise_singleton _ _, fun p hp q hq => by
    rw [List.mem_singleton] at hq; subst hq; exact ha p hp⟩⟩
theorem w_near {b : Int} {i : Nat} {xs : List PV} {n : Nat} {st : Store} {Q : PV → Store → Prop} {low : O} {top : Int} (hs : Src b xs) (hi : st[i]? = some xs) (hb : b + 3 < 10 ^ 9) (hb0 : 0 ≤ b)
    (ho : Okay low) (hlen : low.length ≤ 100) (hlow : ∀ p ∈ low, p.1 < top ∧ p.2 ≤ 10 ^ 9) (ht0 : 0 ≤ top) (ht1 : top < 1000)
    (k : ∀ r ys, Okay r → r.length ≤ low.length + 1 → (∀ p ∈ r, p.1 < top ∧ p.2 ≤ 10 ^ 9 + 1) → Src (b + 3) ys → Q (ordP r) (st.set i ys)) : wpO ((sg.ctx (n + 2)).fn "_law_near" [.loc i, ordP low, .int top] st) Q := by
  have s1 : 1 ≤ sizeLine := by decide
  have s2 : 2 ≤ sizeLine := by decide
  have s3 : 1000 < sizeLine := by decide
  refine wp_fn1 at__law_near rfl rfl (by simp [freeAll, free_ord, PV.free]) hi hs.free ?_
  simp only [f__law_near, env0]
  rw [wp_ss]
  simp
  refine w_draw hs rfl (by omega) (by decide) (by decide) fun way ys w0 w1 hs1 => ?_
  have hf1 := hs1.free
  have hway : way = 0 ∨ way = 1 ∨ way = 2 ∨ way = 3 := by omega
  rcases List.eq_nil_or_concat low with rfl | ⟨u, z, rfl⟩
  · -- nothing behind
    simp [ordP, eqv_00, s2]
    rw [wp_ss]
    simp
    rcases hway with rfl | rfl | rfl | rfl
    · simp
      rw [wp_ss]
      simp [hf1]
      exact ⟨_, frz_free rfl, k [] ys Okay.nil (Nat.zero_le _) (fun p hp => absurd hp (by simp)) (hs1.mono (by omega))⟩
    · simp
      rw [wp_ss]
      simp
      rw [wp_ss]
      simp [hf1, cut_last0]
      exact ⟨_, frz_free rfl, k [] ys Okay.nil (Nat.zero_le _) (fun p hp => absurd hp (by simp)) (hs1.mono (by omega))⟩
    · simp
      rw [wp_ss]
      simp [eqv_00]
      rw [wp_ss]
      simp [hf1, cut_last0]
      exact ⟨_, frz_free rfl, k [] ys Okay.nil (Nat.zero_le _) (fun p hp => absurd hp (by simp)) (hs1.mono (by omega))⟩
    · by_cases h0 : top = 0
      · subst h0
        simp
        rw [wp_ss]
        simp [hf1]
        exact ⟨_, frz_free rfl, k [] ys Okay.nil (Nat.zero_le _) (fun p hp => absurd hp (by simp)) (hs1.mono (by omega))⟩
      · have ht2 : 0 < top := by omega
        simp [h0]
        rw [wp_ss]
        simp [eqv_00]
        rw [wp_ss]
        simp
        rw [wp_ss]
        simp
        refine w_draw hs1 rfl (by omega) ht2 (by omega) fun v ys2 v0 v1 hs2 => ?_
        simp
        refine w_draw hs2 rfl (by omega) (by decide) (by decide) fun q ys3 q0 q1 hs3 => ?_
        simp [s1, s2, hs3.free]
        have ok : Okay [(v, 1 + q)] := ⟨fun p hp => by rw [List.mem_singleton] at hp; subst hp; exact ⟨v0, by show 0 < 1 + q; omega⟩, List.pairwise_singleton _ _⟩
        exact ⟨_, frz_free rfl, k [(v, 1 + q)] ys3 ok (by simp) (fun p hp => by rw [List.mem_singleton] at hp; subst hp; exact ⟨v1, by show 1 + q ≤ 10 ^ 9 + 1; omega⟩) (hs3.mono (by omega))⟩
  · obtain ⟨x, y⟩ := z
    rw [List.concat_eq_append] at *
    obtain ⟨ou, hab, x0, y0⟩ := near_ok ho
    have hab : ∀ p ∈ u, x < p.1 := hab
    have x0 : 0 ≤ x := x0
    have y0 : 0 < y := y0
    have hz := hlow (x, y) (by simp)
    have hx : x < top := hz.1
    have hy : y ≤ 10 ^ 9 := hz.2
    have hlu : u.length + 1 ≤ 100 := by rw [List.length_append, List.length_singleton] at hlen; exact hlen
    have hu : ∀ p ∈ u, p.1 < top ∧ p.2 ≤ 10 ^ 9 := fun p hp => hlow p (by simp [hp])
    have e1 : ∀ st, eqvV st (.tup (u.map oP ++ [oP (x, y)])) (.tup []) = some false := fun st => by
      have := ord_nil st (u ++ [(x, y)])
      rw [List.map_append] at this
      rw [show List.map oP [(x, y)] = [oP (x, y)] from rfl] at this
      rw [this]
      simp
    have same' : ∀ ys, Src (b + 1) ys → Q (ordP (u ++ [(x, y)])) (st.set i ys) := fun ys hs => k _ ys ho (by simp) (fun p hp => by have := hlow p hp; exact ⟨this.1, by omega⟩) (hs.mono (by omega))
    have cut' : ∀ ys, Src (b + 1) ys → Q (ordP u) (st.set i ys) := fun ys hs => k _ ys ou (by simp; omega) (fun p hp => by have := hu p hp; exact ⟨this.1, by omega⟩) (hs.mono (by omega))
    have frz' : ∀ (m : Nat) (s : Store) (w : O), frz m s 64 (.tup (w.map oP)) = some (ordP w) := fun m s w => frz_ordT m s w
    simp [ordP, e1, at_last]
    simp [oP, s2]
    rw [wp_ss]
    simp
    rcases hway with rfl | rfl | rfl | rfl
    · simp
      rw [wp_ss]
      simp [hf1]
      refine ⟨_, ?_, same' ys hs1⟩
      have := frz' 1 [ys] (u ++ [(x, y)])
      rw [List.map_append] at this
      exact this
    · simp
      rw [wp_ss]
      simp
      rw [wp_ss]
      simp [hf1, cut_last]
      exact cut' ys hs1
    · simp
      rw [wp_ss]
      have e2 := e1 [ys]
      simp only [oP] at e2
      simp [e2]
      rw [wp_ss]
      simp [at_last, cut_last]
      rw [wp_ss]
      simp [at_last, cut_last, s1, s2, hf1]
      refine ⟨by omega, _, ?_, k (u ++ [(x, y + 1)]) ys (ok_snoc ou hab x0 (by show 0 < y + 1; omega)) (by simp) (fun p hp => ?_) (hs1.mono (by omega))⟩
      · have := frz' 1 [ys] (u ++ [(x, y + 1)])
        rw [List.map_append] at this
        exact this
      · rcases List.mem_append.mp hp with hp | hp
        · have := hu p hp; exact ⟨this.1, by omega⟩
        · rw [List.mem_singleton] at hp; subst hp; exact ⟨hx, by show y + 1 ≤ 10 ^ 9 + 1; omega⟩
    · by_cases h0 : x = 0
      · subst h0
        simp
        rw [wp_ss]
        simp [hf1]
        refine ⟨_, ?_, same' ys hs1⟩
        have := frz' 1 [ys] (u ++ [(0, y)])
        rw [List.map_append] at this
        exact this
      · have hx2 : 0 < x := by omega
        simp [h0]
        rw [wp_ss]
        have e2 := e1 [ys]
        simp only [oP] at e2
        simp [e2]
        rw [wp_ss]
        simp
        rw [wp_ss]
        simp
        refine w_draw hs1 rfl (by omega) hx2 (by omega) fun v ys2 v0 v1 hs2 => ?_
        simp
        refine w_draw hs2 rfl (by omega) (by decide) (by decide) fun q ys3 q0 q1 hs3 => ?_
        simp [s1, s2, hs3.free]
        have ok : Okay ((u ++ [(x, y)]) ++ [(v, 1 + q)]) := ok_snoc ho (fun p hp => by
          rcases List.mem_append.mp hp with hp | hp
          · have := hab p hp; show v < p.1; omega
          · rw [List.mem_singleton] at hp; subst hp; exact v1) v0 (by show 0 < 1 + q; omega)
        refine ⟨by omega, _, ?_, k _ ys3 ok (by simp) (fun p hp => ?_) (hs3.mono (by omega))⟩
        · have := frz' 1 [ys3] (u ++ [(x, y)] ++ [(v, 1 + q)])
          rw [List.map_append, List.map_append] at this
          simpa [oP] using this
        · rcases List.mem_append.mp hp with hp | hp
          · have := hlow p hp; exact ⟨this.1, by omega⟩
          · rw [List.mem_singleton] at hp; subst hp; exact ⟨by show v < top; omega, by show 1 + q ≤ 10 ^ 9 + 1; omega⟩
end L2.K46

/-! K46H: what is about a multiple, what is lacking, division. Own work. -/
namespace L2.K46
open PySem L2.Iv
theorem map_shift (e : Int) (o : O) : (o.map fun p => PV.tup [.int (e + 1 + p.1), .int p.2]) = (o.map fun p => (e + 1 + p.1, p.2)).map oP := by
  rw [List.map_map]; rfl
theorem w_about {b : Int} {i : Nat} {xs : List PV} {n : Nat} {st : Store} {Q : PV → Store → Prop} {e c : Int} {t : O} (hs : Src b xs) (hi : st[i]? = some xs) (hb : b + 100 < 10 ^ 9) (hb0 : 0 ≤ b)
    (ha : Bd 5 14 (10 ^ 9) ((e, c) :: t))
    (k : ∀ r ys, Bd 20 17 (10 ^ 10) r → Src (b + 100) ys → Q (ordP r) (st.set i ys)) : wpO ((sg.ctx (n + 3)).fn "_law_about" [.loc i, ordP ((e, c) :: t)] st) Q := by
  have s1 : 1 ≤ sizeLine := by decide
  have s2 : 2 ≤ sizeLine := by decide
  have s3 : 1000 < sizeLine := by decide
  have he := ha.big (e, c) List.mem_cons_self
  have hp := ha.ok.pos (e, c) List.mem_cons_self
  have he1 : e ≤ 14 := he.1
  have hc1 : c ≤ 10 ^ 9 := he.2
  have he0 : 0 ≤ e := hp.1
  have hc0 : 0 < c := hp.2
  have hlt := ha.len
  rw [List.length_cons] at hlt
  refine wp_fn1 at__law_about rfl rfl (by simp [freeAll, free_ord]) hi hs.free ?_
  simp only [f__law_about, env0]
  rw [wp_ss]
  simp [ordP]
  simp [oP]
  rw [wp_ss]
  simp
  refine w_ordinal (M := 3) (by decide) (by decide) hs rfl (by omega) hb0 fun o ys ho hs1 => ?_
  have hol := ho.len
  simp [ordP]
  rw [comp_map (o := fun p : Int × Int => PV.tup [.int (e + 1 + p.1), .int p.2]) o (by simp) (fun p _ => by simp [oP, s2]) (by omega), map_shift]
  simp
  rw [wp_ss]
  simp
  refine w_draw hs1 rfl (by omega) (by decide) (by decide) fun v ys2 v0 v1 hs2 => ?_
  have hm := mul_ok (nat_lt (i := c) (C := 10 ^ 10) (by omega) (by omega) (by decide)) (nat_lt (i := 1 + v) (C := 10) (by omega) (by omega) (by decide))
  simp [hm]
  refine w_draw hs2 rfl (by omega) (by decide) (by decide) fun q ys3 q0 q1 hs3 => ?_
  simp
  rw [wp_ss]
  simp [s1, s2, hol]
  refine ⟨by omega, ?_⟩
  have hmany0 : 0 < c * (1 + v) + q := by
    have := Int.mul_pos hc0 (show 0 < 1 + v by omega)
    omega
  have hmany1 : c * (1 + v) + q ≤ 10 ^ 10 := by
    have := Int.mul_le_mul hc1 (show 1 + v ≤ 7 by omega) (by omega) (by decide)
    omega
  have hA : Okay (o.map fun p => (e + 1 + p.1, p.2)) := by
    refine ⟨fun p hp => ?_, ?_⟩
    · obtain ⟨z, hz, rfl⟩ := List.mem_map.mp hp
      have := ho.ok.pos z hz
      exact ⟨by show 0 ≤ e + 1 + z.1; omega, this.2⟩
    · rw [List.pairwise_map]
      exact ho.ok.dec.imp fun h => by show _ + _ < _ + _; omega
  have hrest : ∀ r : O, Okay r → r.length ≤ t.length + 1 → (∀ p ∈ r, p.1 < e ∧ p.2 ≤ 10 ^ 9 + 1) → Bd 20 17 (10 ^ 10) ((o.map fun p => (e + 1 + p.1, p.2)) ++ (e, c * (1 + v) + q) :: r) := fun r hr hrl hrb => by
    refine ⟨⟨fun p hp => ?_, List.pairwise_append.mpr ⟨hA.dec, List.pairwise_cons.mpr ⟨fun p hp => (hrb p hp).1, hr.dec⟩, fun p hp p2 hp2 => ?_⟩⟩, ?_, fun p hp => ?_⟩
    · rcases List.mem_append.mp hp with hp | hp
      · exact hA.pos p hp
      · rcases List.mem_cons.mp hp with rfl | hp
        · exact ⟨he0, hmany0⟩
        · exact hr.pos p hp
    · obtain ⟨z, hz, rfl⟩ := List.mem_map.mp hp
      have := (ho.ok.pos z hz).1
      rcases List.mem_cons.mp hp2 with rfl | hp2
      · show e < e + 1 + z.1; omega
      · have := (hrb p2 hp2).1; show p2.1 < e + 1 + z.1; omega
    · rw [List.length_append, List.length_map, List.length_cons]; omega
    · rcases List.mem_append.mp hp with hp | hp
      · obtain ⟨z, hz, rfl⟩ := List.mem_map.mp hp
        have := ho.big z hz
        exact ⟨by show e + 1 + z.1 ≤ 17; omega, by show z.2 ≤ 10 ^ 10; omega⟩
      · rcases List.mem_cons.mp hp with rfl | hp
        · exact ⟨by show e ≤ 17; omega, hmany1⟩
        · have := hrb p hp; exact ⟨by omega, by omega⟩
  refine w_near (low := t) (top := e) hs3 rfl (by omega) (by omega) ha.ok.tail (by omega) (fun p hp => ⟨ha.ok.head p hp, (ha.big p (List.mem_cons_of_mem _ hp)).2⟩) he0 (by omega) fun r ys4 hr hrl hrb hs4 => ?_
  simp [ordP, hs4.free]
  refine ⟨by omega, _, ?_, k _ ys4 (hrest r hr hrl hrb) (hs4.mono (by omega))⟩
  have := frz_ordT 1 [ys4] ((o.map fun p => (e + 1 + p.1, p.2)) ++ (e, c * (1 + v) + q) :: r)
  simpa [ordP, oP] using this
theorem e_rest (a b : O) (n : Nat) (st : Store) (h : ltO b a = false) (hl : a.length + b.length < 1000) : (sg.ctx (n + 1)).fn "_law_rest" [ordP b, ordP a] st = .ok (ordP (restO a b)) st := by
  have s1 : 1 ≤ sizeLine := by decide
  have s2 : 2 ≤ sizeLine := by decide
  have s3 : 1000 < sizeLine := by decide
  suffices hh : wpO ((sg.ctx (n + 1)).fn "_law_rest" [ordP b, ordP a] st) (fun u s => u = ordP (restO a b) ∧ s = st) by
    obtain ⟨v, s, e, rfl, rfl⟩ := wp_get hh
    exact e
  refine wp_fn at__law_rest rfl rfl (by simp [freeAll, free_ord]) ?_
  simp only [f__law_rest, env0]
  rw [wp_ss]
  simp [ordP]
  rw [rng1_ok (by omega) (by omega), wp_ok]
  obtain ⟨I, hI⟩ : ∃ I : Nat → Iv.Env → Store → Prop, I = fun (j : Nat) (env : Iv.Env) (st' : Store) => ∃ u : Option PV, st' = [] ∧ env = [some (ordP b), some (ordP a), u] ∧ restO (a.drop j) (b.drop j) = restO a b ∧ ltO (b.drop j) (a.drop j) = false := ⟨_, rfl⟩
  refine wp_rng I ?_ ?_ _ _ (by rw [hI]; exact ⟨_, rfl, rfl, rfl, h⟩)
  · intro j env st' hj hh
    rw [hI] at hh
    obtain ⟨u, rfl, rfl, h1, h2⟩ := hh
    have hj : j < a.length := by simpa using hj
    have da : a.drop j = a[j] :: a.drop (j + 1) := List.drop_eq_getElem_cons hj
    rw [da] at h1 h2
    have hjb : j < b.length := by
      rcases Nat.lt_or_ge j b.length with z | z
      · exact z
      · rw [List.drop_eq_nil_of_le z] at h2; cases h2
    have db : b.drop j = b[j] :: b.drop (j + 1) := List.drop_eq_getElem_cons hjb
    rw [db] at h1 h2
    have ga : L2.atI (a.map oP) (j : Int) = some (oP a[j]) := by rw [at_nn (by omega)]; simp [hj]
    have gb : L2.atI (b.map oP) (j : Int) = some (oP b[j]) := by rw [at_nn (by omega)]; simp [hjb]
    simp
    rw [wp_ss]
    simp [ordP, ga, gb, eqv_pair]
    by_cases e : a[j] = b[j]
    · simp [e]
      rw [hI]
      refine ⟨_, rfl, rfl, ?_, ?_⟩
      · rw [e] at h1
        rw [← h1]
        exact (if_pos rfl).symm
      · rw [e, ltO_same] at h2
        exact h2
    · have sub1 : cutP (b.map oP) (some ((j : Int) + 1)) none = (b.drop (j + 1)).map oP := by
        rw [show ((j : Int) + 1) = ((j + 1 : Nat) : Int) by omega, cut_from, List.map_drop]
      have sub2 : cutP (b.map oP) (some (j : Int)) none = (b.drop j).map oP := by
        rw [cut_from, List.map_drop]
      have hr : restO a b = if a[j].1 = b[j].1 then (b[j].1, b[j].2 - a[j].2) :: b.drop (j + 1) else b[j] :: b.drop (j + 1) := by
        rw [← h1]
        exact if_neg e
      simp [e]
      rw [wp_ss]
      simp [ga, gb]
      simp [oP]
      by_cases e1 : a[j].1 = b[j].1
      · rw [if_pos e1] at hr
        simp [e1]
        rw [wp_ss]
        simp [gb, ga]
        simp [oP]
        rw [sub1, hr]
        refine ⟨s2, s1, ?_, ?_⟩
        · rw [List.length_map, List.length_drop]; omega
        · exact frz_ordT 0 [] ((b[j].1, b[j].2 - a[j].2) :: b.drop (j + 1))
      · rw [if_neg e1, ← db] at hr
        simp [e1]
        rw [wp_ss]
        simp [sub2, hr]
        rw [← List.map_drop]
        exact frz_ordT 0 [] (b.drop j)
  · intro env st' hh
    rw [hI] at hh
    obtain ⟨u, rfl, rfl, h1, h2⟩ := hh
    have sub2 : cutP (b.map oP) (some (a.length : Int)) none = (b.drop a.length).map oP := by
      rw [cut_from, List.map_drop]
    have hr : restO a b = b.drop a.length := by
      rw [← h1]
      simp [restO]
    dsimp only
    rw [wp_ss]
    simp [ordP, sub2, hr]
    rw [← List.map_drop]
    exact frz_ordT 0 [] (b.drop a.length)
end L2.K46

/-! K46I: division. Own work. -/
namespace L2.K46
open PySem L2.Iv
theorem rest_len : ∀ a b : O, (restO a b).length ≤ b.length
  | [], b => Nat.le_refl _
  | _ :: _, [] => Nat.le_refl _
  | p :: a, q :: b => by
    unfold restO
    split
    · exact Nat.le_trans (rest_len a b) (Nat.le_succ _)
    · split
      · exact Nat.le_refl _
      · exact Nat.le_refl _
theorem rest_big {E C : Int} : ∀ {a b : O}, (∀ p ∈ a, 0 < p.2) → (∀ p ∈ b, p.1 ≤ E ∧ p.2 ≤ C) → ∀ p ∈ restO a b, p.1 ≤ E ∧ p.2 ≤ C
  | [], b, _, h => h
  | _ :: _, [], _, h => fun p hp => by simp [restO] at hp
  | x :: a, q :: b, ha, h => fun p hp => by
    unfold restO at hp
    split at hp
    · exact rest_big (fun p hp => ha p (List.mem_cons_of_mem _ hp)) (fun p hp => h p (List.mem_cons_of_mem _ hp)) p hp
    · split at hp
      · rcases List.mem_cons.mp hp with rfl | hp
        · have h1 := h q List.mem_cons_self
          have h2 := ha x List.mem_cons_self
          exact ⟨h1.1, by show q.2 - x.2 ≤ C; omega⟩
        · exact h p (List.mem_cons_of_mem _ hp)
      · exact h p hp
theorem rest_bd {a b : O} {L : Nat} {E C : Int} (ha : Okay a) (hb : Bd L E C b) (h : ltO b a = false) : Bd L E C (restO a b) :=
  ⟨rest_ok ha hb.ok h, Nat.le_trans (rest_len a b) hb.len, rest_big (fun p hp => (ha.pos p hp).2) hb.big⟩
theorem own_map {e c many : Int} {t : O} : (ownO e c t many).map oP = if 0 < many then .tup [.int e, .int (c * many)] :: t.map oP else [] := by
  unfold ownO
  split <;> rfl
theorem own_len {e c many : Int} {t : O} : (ownO e c t many).length ≤ t.length + 1 := by
  unfold ownO
  split
  · exact Nat.le_refl _
  · exact Nat.zero_le _
theorem log_small {c : Int} (h0 : 0 < c) (h : c < 10 ^ 28) : c.natAbs.log2 < 9000 := by
  have h2 : c.natAbs < 2 ^ 400 := nat_lt (by omega) h (by decide)
  have h3 := (Nat.log2_lt (n := c.natAbs) (by omega)).mpr h2
  omega
theorem many_le {e c : Int} {t left : O} (hc : 0 < c) (hl : ∀ p ∈ left, 0 < p.2 ∧ p.2 ≤ 10 ^ 10) : manyO e c t left ≤ 10 ^ 12 := by
  cases left with
  | nil => show (0 : Int) ≤ 10 ^ 12; decide
  | cons p w =>
    obtain ⟨f, m⟩ := p
    have h1 := hl (f, m) List.mem_cons_self
    have h2 : m / c ≤ m := Int.ediv_le_self _ (by have : 0 < m := h1.1; omega)
    have h3 : m ≤ 10 ^ 10 := h1.2
    have h4 : m / c ≤ 10 ^ 12 := by omega
    have h5 : m / c - 1 ≤ 10 ^ 12 := by omega
    have e1 : manyO e c t ((f, m) :: w) = if f = e then (if 0 < m / c ∧ ltO ((f, m) :: w) ((e, c * (m / c)) :: t) = true then m / c - 1 else m / c) else 0 := rfl
    rw [e1]
    split
    · split
      · exact h5
      · exact h4
    · decide
theorem quot_map {e many : Int} {b : O} : (quotO e b many).map oP = (over e b).map (fun p => PV.tup [.int (p.1 - e), .int p.2]) ++ (if 0 < many then [PV.tup [.int 0, .int many]] else []) := by
  unfold quotO
  rw [List.map_append, List.map_map]
  congr 1
  split <;> rfl
theorem e_divided (b t : O) (e c : Int) (n : Nat) (st : Store) (ha : Bd 5 14 (10 ^ 9) ((e, c) :: t)) (hb : Bd 20 17 (10 ^ 10) b) :
    (sg.ctx (n + 2)).fn "_law_divided" [ordP b, ordP ((e, c) :: t)] st = .ok (.tup [ordP (quotO e b (manyO e c t (b.drop (over e b).length))), ordP (over e b ++ ownO e c t (manyO e c t (b.drop (over e b).length))), ordP (restO (ownO e c t (manyO e c t (b.drop (over e b).length))) (b.drop (over e b).length))]) st := by
  have s1 : 1 ≤ sizeLine := by decide
  have s2 : 2 ≤ sizeLine := by decide
  have s3 : 3 ≤ sizeLine := by decide
  have sb : 1000 < sizeLine := by decide
  have hc0 : 0 < c := (ha.ok.pos (e, c) List.mem_cons_self).2
  have hc1 : c ≤ 10 ^ 9 := (ha.big (e, c) List.mem_cons_self).2
  have hlc := log_small hc0 (by omega)
  have hlt := ha.len
  rw [List.length_cons] at hlt
  have hbl := hb.len
  have hol : (over e b).length ≤ b.length := List.length_filter_le _ _
  obtain ⟨sp1, sp2⟩ := split_over (e := e) hb.ok
  have hleft : ∀ p ∈ b.drop (over e b).length, p.1 ≤ e ∧ 0 < p.2 := fun p hp => ⟨sp2 p hp, (hb.ok.pos p (List.mem_of_mem_drop hp)).2⟩
  have hlbig : ∀ p ∈ b.drop (over e b).length, p.2 ≤ 10 ^ 10 := fun p hp => (hb.big p (List.mem_of_mem_drop hp)).2
  have hll : (b.drop (over e b).length).length ≤ 20 := by rw [List.length_drop]; omega
  have cutL : cutP (b.map oP) (some ((over e b).length : Int)) none = (b.drop (over e b).length).map oP := by rw [cut_from, List.map_drop]
  obtain ⟨m0, m1, m2⟩ := many_facts (t := t) hc0 hleft
  refine fn_eq at__law_divided rfl rfl (by simp [freeAll, free_ord]) ?_
  simp only [f__law_divided, env0]
  rw [wp_ss]
  simp [ordP]
  simp [oP]
  rw [wp_ss]
  simp
  rw [comp_if (fun p => decide (e < p.1)) oP b (by simp) (fun x _ => by simp [oP]; split <;> rfl) (by omega)]
  rw [show List.filter (fun p => decide (e < p.1)) b = over e b from rfl]
  simp
  rw [wp_ss]
  simp [cutL, s2]
  rw [← List.map_drop]
  generalize hL : b.drop (over e b).length = left at *
  generalize hM : manyO e c t left = M at *
  rw [wp_ss]
  refine wp_mono (Q := fun f s => f = .nx [some (.tup (b.map oP)), some (.tup (.tup [.int e, .int c] :: t.map oP)), some (.int e), some (.int c), some (.tup ((over e b).map oP)), some (.tup (left.map oP)), some (.int M), none, none, none, none] ∧ s = []) ?_ ?_
  · cases left with
    | nil =>
      have hM0 : M = 0 := by rw [← hM]; rfl
      subst hM0
      simp [eqv_00]
    | cons p w =>
      obtain ⟨f, m⟩ := p
      have e1 : ∀ st, eqvV st (.tup (.tup [.int f, .int m] :: w.map oP)) (.tup []) = some false := fun st => ord_nil st ((f, m) :: w)
      have hm0 : 0 < m := (hleft (f, m) List.mem_cons_self).2
      have hm1 : m ≤ 10 ^ 10 := hlbig (f, m) List.mem_cons_self
      simp [oP, e1]
      by_cases hf : f = e
      · subst hf
        have hdef : M = if 0 < m / c ∧ ltO ((f, m) :: w) ((f, c * (m / c)) :: t) = true then m / c - 1 else m / c := by rw [← hM]; exact if_pos rfl
        have q0 : 0 ≤ m / c := Int.ediv_nonneg (by omega) (by omega)
        have q1 : m / c ≤ m := Int.ediv_le_self _ (by omega)
        have hmul := mul_ok (nat_lt (i := c) (C := 10 ^ 12) (by omega) (by omega) (by decide)) (nat_lt (i := m / c) (C := 10 ^ 12) q0 (by omega) (by decide))
        have hord : ltP (.tup (.tup [.int f, .int m] :: w.map oP)) (.tup (.tup [.int f, .int (c * (m / c))] :: t.map oP)) = some (ltO ((f, m) :: w) ((f, c * (m / c)) :: t)) := lt_ord ((f, m) :: w) ((f, c * (m / c)) :: t)
        simp
        rw [wp_ss]
        simp [hc0, hlc]
        rw [wp_ss]
        by_cases hq : 0 < m / c
        · by_cases ho : ltO ((f, m) :: w) ((f, c * (m / c)) :: t) = true
          · rw [if_pos ⟨hq, ho⟩] at hdef
            rw [ho] at hord
            simp [hq, hmul, s1, s2, c_gtT, hord]
            refine ⟨by omega, ?_⟩
            rw [wp_ss]
            simp [hdef]
            first | done | exact ⟨rfl, rfl⟩ | rfl
          · rw [if_neg (fun z => ho z.2)] at hdef
            have ho : ltO ((f, m) :: w) ((f, c * (m / c)) :: t) = false := by simpa using ho
            rw [ho] at hord
            simp [hq, hmul, s1, s2, c_gtT, hord]
            refine ⟨by omega, ?_⟩
            simp [hdef]
            first | done | exact ⟨rfl, rfl⟩ | rfl
        · rw [if_neg (fun z => hq z.1)] at hdef
          simp [hq]
          simp [hdef]
          first | done | exact ⟨rfl, rfl⟩ | rfl
      · have hM0 : M = 0 := by rw [← hM]; exact if_neg hf
        subst hM0
        simp [hf]
        first | done | exact ⟨rfl, rfl⟩ | rfl
  · rintro f s ⟨rfl, rfl⟩
    have hM1 : M ≤ 10 ^ 12 := by rw [← hM]; exact many_le hc0 (fun p hp => ⟨(hleft p hp).2, hlbig p hp⟩)
    have hmul := mul_ok (nat_lt (i := c) (C := 10 ^ 12) (by omega) (by omega) (by decide)) (nat_lt (i := M) (C := 10 ^ 13) m0 (by omega) (by decide))
    have hr := e_rest (ownO e c t M) left n [] m1 (by have := own_len (e := e) (c := c) (many := M) (t := t); omega)
    simp only [ordP, own_map] at hr
    have hol2 : (over e b).length ≤ 20 := by omega
    dsimp only
    rw [wp_ss]
    by_cases hm : 0 < M
    · rw [if_pos hm] at hr
      simp [hm, hmul, s1, s2]
      refine ⟨by omega, ?_⟩
      rw [wp_ss]
      simp
      rw [comp_map (o := fun p : Int × Int => PV.tup [.int (p.1 - e), .int p.2]) (over e b) (by simp) (fun p _ => by simp [oP, s2]) (by omega)]
      simp [hm, s1, s2]
      refine ⟨by omega, ?_⟩
      rw [wp_ss]
      simp [hr, s3]
      refine ⟨by omega, ?_⟩
      have key : ∀ v, v = PV.tup [ordP (quotO e b M), ordP (over e b ++ ownO e c t M), ordP (restO (ownO e c t M) left)] → frz 0 [] 64 v = some (.tup [ordP (quotO e b M), ordP (over e b ++ ownO e c t M), ordP (restO (ownO e c t M) left)]) := fun v hv => by
        rw [hv]
        exact frz_free (by simp [PV.free, freeAll, free_ord])
      have z := key _ rfl
      simp only [ordP, List.map_append, own_map, quot_map] at z ⊢
      simpa [hm] using z
    · rw [if_neg hm] at hr
      simp [hm]
      rw [wp_ss]
      simp
      rw [comp_map (o := fun p : Int × Int => PV.tup [.int (p.1 - e), .int p.2]) (over e b) (by simp) (fun p _ => by simp [oP, s2]) (by omega)]
      simp [hm]
      refine ⟨by omega, ?_⟩
      rw [wp_ss]
      simp [hr, s3]
      refine ⟨by omega, ?_⟩
      have key : ∀ v, v = PV.tup [ordP (quotO e b M), ordP (over e b ++ ownO e c t M), ordP (restO (ownO e c t M) left)] → frz 0 [] 64 v = some (.tup [ordP (quotO e b M), ordP (over e b ++ ownO e c t M), ordP (restO (ownO e c t M) left)]) := fun v hv => by
        rw [hv]
        exact frz_free (by simp [PV.free, freeAll, free_ord])
      have z := key _ rfl
      simp only [ordP, List.map_append, own_map, quot_map] at z ⊢
      simpa [hm] using z
end L2.K46

/-! K46W: the law. Own work. -/
namespace L2.K46
open PySem L2.Iv
theorem c_notin {st : Store} {v w : PV} : cmpV .notin st v w = match seqA st w with
    | some xs => if flatP v = true ∧ xs.all flatP = true then some (!inP v xs) else none
    | none => none := rfl
theorem w_source {ns : List Int} {k : Int} {n : Nat} {st : Store} {Q : PV → Store → Prop} (h0 : 0 ≤ k) (h1 : k < 1000) (hl : ns.length ≤ 63) (q : ∀ xs, Src 0 xs → Q (.loc st.length) (st ++ [xs])) :
    wpO ((sg.ctx (n + 1)).fn "_law_source" [.lsv (ns.map PV.int), .int k] st) Q := by
  have hfree : freeAll (ns.map PV.int) = true := by
    rw [freeAll_all, List.all_map, List.all_eq_true]; intro x _; rfl
  refine wp_fnM at__law_source rfl rfl (by simp [freeAll, PV.free, hfree]) ?_
  simp only [f__law_source, env0]
  rw [wp_ss]
  have first : ∃ w : Int, evE (sg.ctx n) (.ite (.cmp .lt (.v 1) (.bi .len true (.cons (.v 0) .nil))) (.bi .int true (.cons (.ix (.v 0) (.v 1)) .nil)) (.bin .add true (.c (.int 5)) (.bin .mul true (.c (.int 9973)) (.v 1)))) [some (.lsv (ns.map PV.int)), some (.int k), none, none, none] [] = .ok (.int w) [] := by
    by_cases hk : k < ns.length
    · have hg : (ns.map PV.int)[k.toNat]? = some (.int ns[k.toNat]) := by
        rw [List.getElem?_map, List.getElem?_eq_getElem (by omega)]; rfl
      exact ⟨ns[k.toNat]'(by omega), by simp [hk, at_nn h0, List.getElem?_eq_getElem (show k.toNat < ns.length by omega)]⟩
    · have hm := mul_ok (show (9973 : Int).natAbs < 2 ^ 400 by decide) (nat_lt h0 h1 (by decide))
      have hm2 : Nat.log2 9973 + k.natAbs.log2 < 1000000 := by simpa using hm
      exact ⟨5 + 9973 * k, by simp [hk, hm2]⟩
  obtain ⟨w, hw⟩ := first
  rw [r_sasg]
  simp only [List.map_cons, List.map_nil, List.length_cons, List.length_nil, List.cons_append, List.nil_append, List.replicate]
  rw [hw]
  simp
  rw [wp_ss]
  simp
  rw [wp_ss]
  simp
  have hcut : cutP (ns.map PV.int) none (some 63) = (ns.take 63).map PV.int := by
    rw [List.map_take]
    exact cut_to 63
  rw [hcut]
  obtain ⟨I, hI⟩ : ∃ I : List Int → Iv.Env → Store → Prop, I = fun (l : List Int) (env : Iv.Env) (st' : Store) => ∃ (m : Int) (u : Option PV), st' = [] ∧ env = [some (.lsv (ns.map PV.int)), some (.int k), some (.int w), some (.int m), u] ∧ 0 ≤ m ∧ m < 10 ^ 28 := ⟨_, rfl⟩
  refine wp_loopM (g := PV.int) I ?_ ?_ _ _ _ (by rw [hI]; exact ⟨_, _, rfl, rfl, by omega, by omega⟩)
  · intro x l env st' hh
    rw [hI] at hh
    obtain ⟨m, u, rfl, rfl, m0, m1⟩ := hh
    refine ⟨by simp, ?_⟩
    have hm := mul_ok (nat_lt m0 m1 (by decide)) (show (6700417 : Int).natAbs < 2 ^ 400 by decide)
    simp
    rw [wp_ss]
    simp
    refine ⟨by simpa using hm, ?_⟩
    rw [hI]
    exact ⟨_, _, rfl, rfl, Int.emod_nonneg _ (by decide), Int.lt_trans (Int.emod_lt_of_pos _ (by decide)) (by decide)⟩
  · intro env st' hh
    rw [hI] at hh
    obtain ⟨m, u, rfl, rfl, m0, m1⟩ := hh
    refine ⟨by simp, ?_⟩
    have hm := mul_ok (nat_lt m0 m1 (by decide)) (show (97 : Int).natAbs < 2 ^ 400 by decide)
    have hk := mul_ok (nat_lt h0 h1 (by decide)) (show (7919 : Int).natAbs < 2 ^ 400 by decide)
    dsimp only
    rw [wp_ss]
    simp
    refine ⟨by simpa using hm, by simpa using hk, ?_⟩
    rw [wp_ss]
    simp
    refine ⟨by decide, rfl, ?_⟩
    exact q _ ⟨_, _, 0, rfl, Int.emod_nonneg _ (by decide), Int.lt_trans (Int.emod_lt_of_pos _ (by decide)) (by decide), by decide, by decide⟩

theorem bd_one : Bd 1 12 (10 ^ 9) [(0, 1)] := ⟨⟨fun p hp => by rw [List.mem_singleton] at hp; subst hp; exact ⟨by decide, by decide⟩, List.pairwise_singleton _ _⟩, by decide, fun p hp => by rw [List.mem_singleton] at hp; subst hp; exact ⟨by decide, by decide⟩⟩
theorem bd_nil : Bd 1 12 (10 ^ 9) [] := ⟨Okay.nil, by decide, fun p hp => absurd hp (by simp)⟩
theorem Bd.mono {L M : Nat} {E F C D : Int} {a : O} (h : Bd L E C a) (h1 : L ≤ M) (h2 : E ≤ F) (h3 : C ≤ D) : Bd M F D a := ⟨h.ok, Nat.le_trans h.len h1, fun p hp => by have := h.big p hp; exact ⟨by omega, by omega⟩⟩
theorem shows_ord {a : O} (h : Bd 200 100 (10 ^ 28) a) : Shows (ordP a) 2 13803 := by
  have one : ∀ p ∈ a, Shows (oP p) 1 67 := fun p hp => by
    have h1 := h.big p hp
    have h2 := h.ok.pos p hp
    have n1 : Shows (.int p.1) 0 30 := shows_int (k := 29) (by decide) (by
      have : (p.1.natAbs : Int) < 10 ^ 29 := by omega
      exact_mod_cast this) (by decide)
    have n2 : Shows (.int p.2) 0 30 := shows_int (k := 29) (by decide) (by
      have : (p.2.natAbs : Int) < 10 ^ 29 := by omega
      exact_mod_cast this) (by decide)
    exact (shows_seq (xs := [.int p.1, .int p.2]) (m := 2) (fun x hx => by
      rcases List.mem_cons.mp hx with rfl | hx
      · exact n1
      · rw [List.mem_singleton] at hx; subst hx; exact n2) (Nat.le_refl 2)).1
  exact (shows_seq (xs := a.map oP) (m := 200) (fun x hx => by
    obtain ⟨p, hp, rfl⟩ := List.mem_map.mp hx
    exact one p hp) (by rw [List.length_map]; exact h.len)).1

theorem min_max (a b : O) : ∃ low high, (low = a ∨ low = b) ∧ (high = a ∨ high = b) ∧ ltO high low = false ∧ (if ltO b a = true then ordP b else ordP a) = ordP low ∧ (if ltO a b = true then ordP b else ordP a) = ordP high := by
  cases h1 : ltO b a with
  | true =>
    have h2 : ltO a b = false := ltO_asymm h1
    rw [h2]
    exact ⟨b, a, .inr rfl, .inl rfl, h2, rfl, rfl⟩
  | false =>
    cases h2 : ltO a b with
    | true => exact ⟨a, b, .inl rfl, .inr rfl, h1, rfl, rfl⟩
    | false => exact ⟨a, a, .inl rfl, .inl rfl, ltO_irrefl a, rfl, rfl⟩
theorem repr_ord {a : O} (h : Bd 200 100 (10 ^ 28) a) (s : Store) : biV .repr true s [ordP a] = .ok (.str (ordP a).toD.shown) s := repr_shows (shows_ord h) (by decide) (by decide)
/-- the first half: what a lesser one lacks, and nothing else -/
theorem half_one {low high third : O} (h1 : Okay low) (h2 : Okay high) (h3 : Okay third) (h : ltO high low = false) : sumIn low (restO low high) = high ∧ ((decide (sumIn low third = high)) = decide (third = restO low high)) := by
  have e := rest_sum h1 h2 h
  refine ⟨e, ?_⟩
  rw [Bool.eq_iff_iff, decide_eq_true_eq, decide_eq_true_eq]
  constructor
  · intro z
    exact sum_cancel h3 (rest_ok h1 h2 h) (z.trans e.symm)
  · intro z
    rw [z]; exact e
theorem quot_bd {e : Int} {b : O} {M : Int} (hb : Bd 20 17 (10 ^ 10) b) (he : 0 ≤ e) (h0 : 0 ≤ M) (h1 : M ≤ 10 ^ 12) : Bd 21 17 (10 ^ 12 + 1) (quotO e b M) := by
  have hol : (over e b).length ≤ b.length := List.length_filter_le _ _
  have hbl := hb.len
  unfold quotO
  refine ⟨⟨fun p hp => ?_, List.pairwise_append.mpr ⟨?_, ?_, fun p hp q hq => ?_⟩⟩, ?_, fun p hp => ?_⟩
  · rcases List.mem_append.mp hp with hp | hp
    · obtain ⟨z, hz, rfl⟩ := List.mem_map.mp hp
      have := over_mem.mp hz
      exact ⟨by show 0 ≤ z.1 - e; omega, (hb.ok.pos z this.1).2⟩
    · split at hp
      · rw [List.mem_singleton] at hp; subst hp; exact ⟨Int.le_refl _, by assumption⟩
      · simp at hp
  · rw [List.pairwise_map]
    exact (List.Pairwise.sublist List.filter_sublist hb.ok.dec).imp fun h => by show _ - _ < _ - _; omega
  · split
    · exact List.pairwise_singleton _ _
    · exact .nil
  · obtain ⟨z, hz, rfl⟩ := List.mem_map.mp hp
    have := (over_mem.mp hz).2
    split at hq
    · rw [List.mem_singleton] at hq; subst hq; show 0 < z.1 - e; omega
    · simp at hq
  · rw [List.length_append, List.length_map]
    split
    · rw [List.length_singleton]; omega
    · rw [List.length_nil]; omega
  · rcases List.mem_append.mp hp with hp | hp
    · obtain ⟨z, hz, rfl⟩ := List.mem_map.mp hp
      have := hb.big z (over_mem.mp hz).1
      exact ⟨by show z.1 - e ≤ 17; omega, by show z.2 ≤ 10 ^ 12 + 1; omega⟩
    · split at hp
      · rw [List.mem_singleton] at hp; subst hp; exact ⟨by show (0 : Int) ≤ 17; decide, by show M ≤ 10 ^ 12 + 1; omega⟩
      · simp at hp
theorem bd_one1 : Bd 1 17 (10 ^ 9) [(0, 1)] := bd_one.mono (Nat.le_refl _) (by decide) (Int.le_refl _)
theorem w_right {i : Nat} {xs : List PV} {n : Nat} {st : Store} {Q : PV → Store → Prop} (hs : Src 0 xs) (hi : st[i]? = some xs) (k : ∀ ys, Q (.bl true) (st.set i ys)) : wpO ((sg.ctx (n + 6)).fn "_law_right" [.loc i] st) Q := by
  refine wp_fn1 at__law_right rfl rfl rfl hi hs.free ?_
  have s1 : 1 ≤ sizeLine := by decide
  have s2 : 2 ≤ sizeLine := by decide
  have s3 : 3 ≤ sizeLine := by decide
  have sb : 100000 < sizeLine := by decide
  simp only [f__law_right, env0]
  -- a is drawn
  rw [wp_ss]
  simp
  refine w_draw hs rfl (by decide) (by decide) (by decide) fun v ys v0 v1 hs1 => ?_
  simp
  refine w_ordinal (M := 1 + v) (by omega) (by omega) hs1 rfl (by decide) (by decide) fun a0 ys1 ha0 hs2 => ?_
  simp
  rw [wp_ss]
  refine wp_mono (Q := fun f s => ∃ e c t ys, f = .nx [some (.loc 0), some (ordP ((e, c) :: t)), none, none, none, none, none, none, none, none, none, none] ∧ s = [ys] ∧ Bd 5 14 (10 ^ 9) ((e, c) :: t) ∧ Src 100 ys) ?_ ?_
  · cases a0 with
    | nil =>
      simp [ordP, eqv_00]
      refine w_draw hs2 rfl (by decide) (by decide) (by decide) fun w ys2 w0 w1 hs3 => ?_
      simp [s1, s2]
      refine ⟨0, 1 + w, [], ⟨rfl, rfl⟩, ⟨⟨fun p hp => ?_, List.pairwise_singleton _ _⟩, (by show 1 ≤ 5; decide), fun p hp => ?_⟩, hs3.mono (by decide)⟩
      · rw [List.mem_singleton] at hp; subst hp; exact ⟨Int.le_refl _, by show 0 < 1 + w; omega⟩
      · rw [List.mem_singleton] at hp; subst hp; exact ⟨by show (0 : Int) ≤ 14; decide, by show 1 + w ≤ 10 ^ 9; omega⟩
    | cons p t =>
      obtain ⟨e, c⟩ := p
      have e1 := ord_nil [ys1] ((e, c) :: t)
      simp only [List.map_cons] at e1
      simp [ordP, e1]
      exact ⟨e, c, t, ⟨rfl, rfl⟩, ha0.mono (Nat.le_refl _) (by omega) (Int.le_refl _), hs2.mono (by decide)⟩
  rintro f s ⟨e, c, t, ys2, rfl, rfl, ha, hs3⟩
  dsimp only
  -- b is drawn
  rw [wp_ss]
  refine wp_mono (Q := fun f s => ∃ b ys, f = .nx [some (.loc 0), some (ordP ((e, c) :: t)), some (ordP b), none, none, none, none, none, none, none, none, none] ∧ s = [ys] ∧ Bd 20 17 (10 ^ 10) b ∧ Src 400 ys) ?_ ?_
  · simp
    refine w_draw hs3 rfl (by decide) (by decide) (by decide) fun w ys3 w0 w1 hs4 => ?_
    simp
    by_cases hw : w = 0
    · subst hw
      simp
      refine w_about (n := n + 2) hs4 rfl (by decide) (by decide) ha fun r ys4 hr hs5 => ?_
      simp
      exact ⟨r, rfl, hr, hs5.mono (by decide)⟩
    · have hw2 : (w == 0) = false := by simpa using hw
      simp [hw2]
      refine w_draw hs4 rfl (by decide) (by decide) (by decide) fun x ys4 x0 x1 hs5 => ?_
      simp
      refine w_ordinal (M := 1 + x) (by omega) (by omega) hs5 rfl (by decide) (by decide) fun r ys5 hr hs6 => ?_
      simp
      exact ⟨r, rfl, hr.mono (by decide) (by omega) (by decide), hs6.mono (by decide)⟩
  rintro f s ⟨b, ys3, rfl, rfl, hb, hs4⟩
  dsimp only
  obtain ⟨low, high, hlow, hhigh, hlh, elow, ehigh⟩ := min_max ((e, c) :: t) b
  have haB : Bd 20 17 (10 ^ 10) ((e, c) :: t) := ha.mono (by decide) (by decide) (by decide)
  have hL : Bd 20 17 (10 ^ 10) low := by rcases hlow with rfl | rfl <;> assumption
  have hH : Bd 20 17 (10 ^ 10) high := by rcases hhigh with rfl | rfl <;> assumption
  rw [wp_ss]
  have hmin : ∀ s, biV .min2 true s [ordP ((e, c) :: t), ordP b] = .ok (ordP low) s := fun s => by
    show (match ltP (ordP b) (ordP ((e, c) :: t)) with
      | some k => Out.ok (if k = true then ordP b else ordP ((e, c) :: t)) s
      | none => .bad) = _
    rw [lt_ord]
    dsimp only
    rw [elow]
  have hmax : ∀ s, biV .max2 true s [ordP ((e, c) :: t), ordP b] = .ok (ordP high) s := fun s => by
    show (match ltP (ordP ((e, c) :: t)) (ordP b) with
      | some k => Out.ok (if k = true then ordP b else ordP ((e, c) :: t)) s
      | none => .bad) = _
    rw [lt_ord]
    dsimp only
    rw [ehigh]
  simp [hmin, hmax, s2]
  rw [wp_ss]
  have hlen1 := hL.len
  have hlen2 := hH.len
  have r1 := fun s => e_rest low high (n + 4) s hlh (by omega)
  simp [r1]
  refine w_ordinal (M := 4) (by decide) (by decide) hs4 rfl (by decide) (by decide) fun third ys4 hT hs5 => ?_
  have hf5 := hs5.free
  simp [s2]
  clear hs hs1 hs2 hs3 hs4 hi
  have hR := rest_bd hL.ok hH hlh
  obtain ⟨k1, k2⟩ := half_one hL.ok hH.ok hT.ok hlh
  have hTl := hT.len
  have hRl := hR.len
  have f1 : ∀ s, (sg.ctx (n + 5)).fn "ordinal_sum" [ordP low, ordP (restO low high)] s = .ok (ordP high) s := fun s => by
    have := e_ordinal_sum low (restO low high) n s hL.ok hR.ok (by omega)
    rw [k1] at this
    exact this
  have f2 : ∀ s, (sg.ctx (n + 5)).fn "ordinal_sum" [ordP low, ordP third] s = .ok (ordP (sumIn low third)) s := fun s => e_ordinal_sum low third n s hL.ok hT.ok (by omega)
  have g1 := fun s => repr_ord (hH.mono (by decide) (by decide) (by decide) : Bd 200 100 (10 ^ 28) high) s
  rw [wp_ss]
  simp [f1, f2, g1, eqv_ord, k2, eqv_bls]
  -- division
  have hc0 : 0 < c := (ha.ok.pos (e, c) List.mem_cons_self).2
  have he0 : 0 ≤ e := (ha.ok.pos (e, c) List.mem_cons_self).1
  obtain ⟨sp1, sp2⟩ := split_over (e := e) hb.ok
  have hleft : ∀ p ∈ b.drop (over e b).length, p.1 ≤ e ∧ 0 < p.2 := fun p hp => ⟨sp2 p hp, (hb.ok.pos p (List.mem_of_mem_drop hp)).2⟩
  have hleftO : Okay (b.drop (over e b).length) := ⟨fun p hp => hb.ok.pos p (List.mem_of_mem_drop hp), List.Pairwise.sublist (List.drop_sublist _ _) hb.ok.dec⟩
  obtain ⟨m0, m1, m2⟩ := many_facts (t := t) hc0 hleft
  have m3 : manyO e c t (b.drop (over e b).length) ≤ 10 ^ 12 := many_le hc0 fun p hp => ⟨(hleft p hp).2, (hb.big p (List.mem_of_mem_drop hp)).2⟩
  have dv := fun s => e_divided b t e c (n + 3) s ha hb
  have mr := mult_rest ha.ok hc0 hb.ok m1
  have ll := left_less (t := t) hc0 hleftO (fun p hp => (hleft p hp).1) m0 m1 m2
  generalize hM : manyO e c t (b.drop (over e b).length) = M at *
  have qb := quot_bd hb he0 m0 m3
  have ownL := own_len (e := e) (c := c) (many := M) (t := t)
  have pq := prod_quot (e := e) (c := c) (many := M) (t := t) (b := b)
  have pm := prod_quot (e := e) (c := c) (many := M + 1) (t := t) (b := b)
  have mm := mult_more (b := b) ha.ok m0
  have qm := quot_more (e := e) (b := b) m0
  have pB := ha.prod qb (by decide) (by decide) (by decide) (by decide)
  have pmB := ha.prod (qb.sum bd_one1 (by decide) (by decide)) (by decide) (by decide) (by decide) (by decide)
  rw [pq] at pB
  rw [qm, pm] at pmB
  have own1 : ownO e c t (M + 1) = (e, c * (M + 1)) :: t := if_pos (by omega)
  have hbO := hb.ok
  have hOwn : Okay (ownO e c t M) := by
    unfold ownO
    split
    · rename_i hm
      refine ⟨fun p hp => ?_, List.pairwise_cons.mpr ⟨ha.ok.head, ha.ok.tail.dec⟩⟩
      rcases List.mem_cons.mp hp with rfl | hp
      · exact ⟨he0, Int.mul_pos hc0 hm⟩
      · exact ha.ok.pos p (List.mem_cons_of_mem _ hp)
    · exact Okay.nil
  have lO := rest_ok hOwn hleftO m1
  have lLen := rest_len (ownO e c t M) (b.drop (over e b).length)
  have lLen2 : (b.drop (over e b).length).length ≤ 20 := by rw [List.length_drop]; have := hb.len; omega
  have pBl := pB.len
  have pmBl := pmB.len
  have o1 : ∀ s, (sg.ctx (n + 5)).fn "ordinal_sum" [ordP (quotO e b M), .tup [.tup [.int 0, .int 1]]] s = .ok (ordP (quotO e b (M + 1))) s := fun s => by
    have := e_ordinal_sum (quotO e b M) [(0, 1)] n s qb.ok bd_one.ok (by have := qb.len; show _ + 1 < _; omega)
    rw [qm] at this
    exact this
  have qb1 : Bd 22 17 (10 ^ 12 + 1 + 10 ^ 9) (quotO e b (M + 1)) := by
    have := qb.sum bd_one1 (by decide) (by decide)
    rw [qm] at this
    exact this
  have p1 : ∀ s, (sg.ctx (n + 5)).fn "ordinal_product" [ordP ((e, c) :: t), ordP (quotO e b (M + 1))] s = .ok (ordP (over e b ++ ownO e c t (M + 1))) s := fun s => by
    have := e_ordinal_product ((e, c) :: t) (quotO e b (M + 1)) n s ha qb1 (by decide) (by decide) (by decide) (by decide)
    rw [pm] at this
    exact this
  have p2 : ∀ s, (sg.ctx (n + 5)).fn "ordinal_product" [ordP ((e, c) :: t), ordP (quotO e b M)] s = .ok (ordP (over e b ++ ownO e c t M)) s := fun s => by
    have := e_ordinal_product ((e, c) :: t) (quotO e b M) n s ha qb (by decide) (by decide) (by decide) (by decide)
    rw [pq] at this
    exact this
  have o2 : ∀ s, (sg.ctx (n + 5)).fn "ordinal_sum" [ordP (over e b ++ ownO e c t M), ordP (restO (ownO e c t M) (b.drop (over e b).length))] s = .ok (ordP b) s := fun s => by
    have := e_ordinal_sum (over e b ++ ownO e c t M) (restO (ownO e c t M) (b.drop (over e b).length)) n s pB.ok lO (by omega)
    rw [mr] at this
    exact this
  have pl : ∀ s, (sg.ctx (n + 5)).fn "_law_plus" [ordP (over e b ++ ownO e c t M), ordP ((e, c) :: t)] s = .ok (ordP (over e b ++ ownO e c t (M + 1))) s := fun s => by
    have := e_plus (over e b ++ ownO e c t M) ((e, c) :: t) (n + 4) s (by have := ha.len; omega)
    rw [mm] at this
    exact this
  have l1 : ∀ s, cmpV .lt s (ordP (restO (ownO e c t M) (b.drop (over e b).length))) (ordP ((e, c) :: t)) = some true := fun s => by
    exact (lt_ord _ _).trans (by rw [ll])
  have l2 : ∀ s, cmpV .lt s (ordP b) (ordP (over e b ++ ownO e c t (M + 1))) = some true := fun s => by
    refine (lt_ord _ _).trans ?_
    have e1 : ltO b (over e b ++ ownO e c t (M + 1)) = ltO (over e b ++ b.drop (over e b).length) (over e b ++ ownO e c t (M + 1)) := by rw [← sp1]
    rw [e1, ltO_app, own1, m2]
  have hTB : ∀ o ∈ [over e b ++ ownO e c t M, b, over e b ++ ownO e c t (M + 1)], Bd 200 100 (10 ^ 28) o := fun o ho => by
    simp only [List.mem_cons, List.not_mem_nil, or_false] at ho
    rcases ho with rfl | rfl | rfl
    · exact pB.mono (by decide) (by decide) (by decide)
    · exact hb.mono (by decide) (by decide) (by decide)
    · exact pmB.mono (by decide) (by decide) (by decide)
  have hS : Shows (.lsv ([over e b ++ ownO e c t M, b, over e b ++ ownO e c t (M + 1)].map ordP)) 3 220883 := (shows_seq (m := 16) (fun x hx => by
    obtain ⟨o, ho, rfl⟩ := List.mem_map.mp hx
    exact shows_ord (hTB o ho)) (by show 3 ≤ 16; decide)).2
  have hRp : ∀ s, biV .repr true s [.lsv [ordP (over e b ++ ownO e c t M), ordP b, ordP (over e b ++ ownO e c t (M + 1))]] = .ok (.str (PV.lsv ([over e b ++ ownO e c t M, b, over e b ++ ownO e c t (M + 1)].map ordP)).toD.shown) s := fun s => repr_shows hS (by decide) (by decide)
  rw [wp_ss]
  simp [dv]
  rw [wp_ss]
  simp [o1, p1, s1, s2]
  rw [wp_ss]
  simp [p2, o2, s3]
  rw [wp_ss]
  simp [l1, hRp, pl, s3, l2, hf5]
  exact k ys4
theorem law_ok : ∀ ns : List Int, ns.length ≤ 63 → ∃ st, callF sg.tb (fun y => sg.gl.lookup y) 60 "law" [.lsv (ns.map PV.int)] [] = .ok (.bl true) st := by
  intro ns hl
  have hfree : freeAll (ns.map PV.int) = true := by
    rw [freeAll_all, List.all_map, List.all_eq_true]; intro x _; rfl
  suffices h : wpO ((sg.ctx 60).fn "law" [.lsv (ns.map PV.int)] []) fun v _ => v = .bl true by
    obtain ⟨v, st, e, rfl⟩ := wp_get h
    exact ⟨st, e⟩
  refine wp_fn at_law rfl rfl (by simp [freeAll, PV.free, hfree]) ?_
  simp only [f_law, env0]
  rw [wp_ss]
  simp
  generalize hm : (if 1 < (if (ns.length : Int) < 6 then (ns.length : Int) else 6) then (if (ns.length : Int) < 6 then (ns.length : Int) else 6) else 1) = m
  have m0 : 0 ≤ m ∧ m ≤ 6 := by
    rw [← hm]
    split <;> split <;> omega
  rw [rng1_ok (by omega) (by omega), wp_ok]
  obtain ⟨I, hI⟩ : ∃ I : Nat → Iv.Env → Store → Prop, I = fun (j : Nat) (env : Iv.Env) (st' : Store) => ∃ u : Option PV, env = [some (.lsv (ns.map PV.int)), u] := ⟨_, rfl⟩
  refine wp_rng I ?_ ?_ _ _ (by rw [hI]; exact ⟨_, rfl⟩)
  · intro j env st' hj hh
    rw [hI] at hh
    obtain ⟨u, rfl⟩ := hh
    simp
    rw [wp_ss]
    simp
    refine w_source (by omega) (by omega) hl fun xs hs => ?_
    refine w_right (n := 53) hs (by simp) fun ys => ?_
    simp
    rw [hI]
    exact ⟨_, rfl⟩
  · intro env st' hh
    rw [hI] at hh
    obtain ⟨u, rfl⟩ := hh
    dsimp only
    rw [wp_ss]
    simp
end L2.K46

/-! K46Z: the program stands in the top as the text says; the law. Printed by gen.py, own work. -/
namespace L2.K46
open PySem PySem.Spec PyProof.Rows L2.Iv
theorem def_is_integer {K : PySem.W.Frag} {h : Heap} {mg : Str → Option Value} (KX : K.In h) (G : h.Ns mainGlobals mg) {a : Addr} {od an : Option Addr} {sl : Array (Option Value)} {oc kV dc pm cd ct : Value}
    (n : PySem.W.nsIn K mainGlobals "is_integer" = some (some (.ref a))) (l : K.lookup a = some ⟨oc, od, .func (PySem.W.fnOf "is_integer" "is_integer" (defArgs (topS 1)) (defBody (topS 1)) (defScope (topS 1)) .none kV dc pm an cd ct), sl⟩)
    (c : PySem.W.codeIn K cd "is_integer" = true) (k : PySem.W.keepIn K (.ref a) = true) : ∃ a fd, DefAt K mg sg "is_integer" f_is_integer a fd := by
  refine ⟨a, PySem.W.fnOf "is_integer" "is_integer" (defArgs (topS 1)) (defBody (topS 1)) (defScope (topS 1)) .none kV dc pm an cd ct, PySem.W.mg_of KX G n, ⟨topS 1, "is_integer", fun_mk l c k, scope_is_integer, look_is_integer⟩, fun s us hl => ?_, fun ks np perm hm => ?_⟩
  · match us, hl with
    | [_], _ => exact .of_eq rfl
  · cases hm
theorem def_is_natural {K : PySem.W.Frag} {h : Heap} {mg : Str → Option Value} (KX : K.In h) (G : h.Ns mainGlobals mg) {a : Addr} {od an : Option Addr} {sl : Array (Option Value)} {oc kV dc pm cd ct : Value}
    (n : PySem.W.nsIn K mainGlobals "is_natural" = some (some (.ref a))) (l : K.lookup a = some ⟨oc, od, .func (PySem.W.fnOf "is_natural" "is_natural" (defArgs (topS 2)) (defBody (topS 2)) (defScope (topS 2)) .none kV dc pm an cd ct), sl⟩)
    (c : PySem.W.codeIn K cd "is_natural" = true) (k : PySem.W.keepIn K (.ref a) = true) : ∃ a fd, DefAt K mg sg "is_natural" f_is_natural a fd := by
  refine ⟨a, PySem.W.fnOf "is_natural" "is_natural" (defArgs (topS 2)) (defBody (topS 2)) (defScope (topS 2)) .none kV dc pm an cd ct, PySem.W.mg_of KX G n, ⟨topS 2, "is_natural", fun_mk l c k, scope_is_natural, look_is_natural⟩, fun s us hl => ?_, fun ks np perm hm => ?_⟩
  · match us, hl with
    | [_], _ => exact .of_eq rfl
  · cases hm
theorem def_is_ordinal_in {K : PySem.W.Frag} {h : Heap} {mg : Str → Option Value} (KX : K.In h) (G : h.Ns mainGlobals mg) {a : Addr} {od an : Option Addr} {sl : Array (Option Value)} {oc kV dc pm cd ct : Value}
    (n : PySem.W.nsIn K mainGlobals "is_ordinal_in" = some (some (.ref a))) (l : K.lookup a = some ⟨oc, od, .func (PySem.W.fnOf "is_ordinal_in" "is_ordinal_in" (defArgs (topS 7)) (defBody (topS 7)) (defScope (topS 7)) .none kV dc pm an cd ct), sl⟩)
    (c : PySem.W.codeIn K cd "is_ordinal_in" = true) (k : PySem.W.keepIn K (.ref a) = true) : ∃ a fd, DefAt K mg sg "is_ordinal_in" f_is_ordinal_in a fd := by
  refine ⟨a, PySem.W.fnOf "is_ordinal_in" "is_ordinal_in" (defArgs (topS 7)) (defBody (topS 7)) (defScope (topS 7)) .none kV dc pm an cd ct, PySem.W.mg_of KX G n, ⟨topS 7, "is_ordinal_in", fun_mk l c k, scope_is_ordinal_in, look_is_ordinal_in⟩, fun s us hl => ?_, fun ks np perm hm => ?_⟩
  · match us, hl with
    | [_], _ => exact .of_eq rfl
  · cases hm
theorem def_check_ordinals {K : PySem.W.Frag} {h : Heap} {mg : Str → Option Value} (KX : K.In h) (G : h.Ns mainGlobals mg) {a : Addr} {od an : Option Addr} {sl : Array (Option Value)} {oc kV dc pm cd ct : Value}
    (n : PySem.W.nsIn K mainGlobals "check_ordinals" = some (some (.ref a))) (l : K.lookup a = some ⟨oc, od, .func (PySem.W.fnOf "check_ordinals" "check_ordinals" (defArgs (topS 8)) (defBody (topS 8)) (defScope (topS 8)) .none kV dc pm an cd ct), sl⟩)
    (c : PySem.W.codeIn K cd "check_ordinals" = true) (k : PySem.W.keepIn K (.ref a) = true) : ∃ a fd, DefAt K mg sg "check_ordinals" f_check_ordinals a fd := by
  refine ⟨a, PySem.W.fnOf "check_ordinals" "check_ordinals" (defArgs (topS 8)) (defBody (topS 8)) (defScope (topS 8)) .none kV dc pm an cd ct, PySem.W.mg_of KX G n, ⟨topS 8, "check_ordinals", fun_mk l c k, scope_check_ordinals, look_check_ordinals⟩, fun s us hl => ?_, fun ks np perm hm => ?_⟩
  · match us, hl with
    | [_], _ => exact .of_eq rfl
  · cases hm
theorem def_sum_in {K : PySem.W.Frag} {h : Heap} {mg : Str → Option Value} (KX : K.In h) (G : h.Ns mainGlobals mg) {a : Addr} {od an : Option Addr} {sl : Array (Option Value)} {oc kV dc pm cd ct : Value}
    (n : PySem.W.nsIn K mainGlobals "sum_in" = some (some (.ref a))) (l : K.lookup a = some ⟨oc, od, .func (PySem.W.fnOf "sum_in" "sum_in" (defArgs (topS 9)) (defBody (topS 9)) (defScope (topS 9)) .none kV dc pm an cd ct), sl⟩)
    (c : PySem.W.codeIn K cd "sum_in" = true) (k : PySem.W.keepIn K (.ref a) = true) : ∃ a fd, DefAt K mg sg "sum_in" f_sum_in a fd := by
  refine ⟨a, PySem.W.fnOf "sum_in" "sum_in" (defArgs (topS 9)) (defBody (topS 9)) (defScope (topS 9)) .none kV dc pm an cd ct, PySem.W.mg_of KX G n, ⟨topS 9, "sum_in", fun_mk l c k, scope_sum_in, look_sum_in⟩, fun s us hl => ?_, fun ks np perm hm => ?_⟩
  · match us, hl with
    | [_, _], _ => exact .of_eq rfl
  · cases hm
theorem def_product_in {K : PySem.W.Frag} {h : Heap} {mg : Str → Option Value} (KX : K.In h) (G : h.Ns mainGlobals mg) {a : Addr} {od an : Option Addr} {sl : Array (Option Value)} {oc kV dc pm cd ct : Value}
    (n : PySem.W.nsIn K mainGlobals "product_in" = some (some (.ref a))) (l : K.lookup a = some ⟨oc, od, .func (PySem.W.fnOf "product_in" "product_in" (defArgs (topS 10)) (defBody (topS 10)) (defScope (topS 10)) .none kV dc pm an cd ct), sl⟩)
    (c : PySem.W.codeIn K cd "product_in" = true) (k : PySem.W.keepIn K (.ref a) = true) : ∃ a fd, DefAt K mg sg "product_in" f_product_in a fd := by
  refine ⟨a, PySem.W.fnOf "product_in" "product_in" (defArgs (topS 10)) (defBody (topS 10)) (defScope (topS 10)) .none kV dc pm an cd ct, PySem.W.mg_of KX G n, ⟨topS 10, "product_in", fun_mk l c k, scope_product_in, look_product_in⟩, fun s us hl => ?_, fun ks np perm hm => ?_⟩
  · match us, hl with
    | [_, _], _ => exact .of_eq rfl
  · cases hm
theorem def_ordinal_sum {K : PySem.W.Frag} {h : Heap} {mg : Str → Option Value} (KX : K.In h) (G : h.Ns mainGlobals mg) {a : Addr} {od an : Option Addr} {sl : Array (Option Value)} {oc kV dc pm cd ct : Value}
    (n : PySem.W.nsIn K mainGlobals "ordinal_sum" = some (some (.ref a))) (l : K.lookup a = some ⟨oc, od, .func (PySem.W.fnOf "ordinal_sum" "ordinal_sum" (defArgs (topS 11)) (defBody (topS 11)) (defScope (topS 11)) .none kV dc pm an cd ct), sl⟩)
    (c : PySem.W.codeIn K cd "ordinal_sum" = true) (k : PySem.W.keepIn K (.ref a) = true) : ∃ a fd, DefAt K mg sg "ordinal_sum" f_ordinal_sum a fd := by
  refine ⟨a, PySem.W.fnOf "ordinal_sum" "ordinal_sum" (defArgs (topS 11)) (defBody (topS 11)) (defScope (topS 11)) .none kV dc pm an cd ct, PySem.W.mg_of KX G n, ⟨topS 11, "ordinal_sum", fun_mk l c k, scope_ordinal_sum, look_ordinal_sum⟩, fun s us hl => ?_, fun ks np perm hm => ?_⟩
  · match us, hl with
    | [_, _], _ => exact .of_eq rfl
  · cases hm
theorem def_ordinal_product {K : PySem.W.Frag} {h : Heap} {mg : Str → Option Value} (KX : K.In h) (G : h.Ns mainGlobals mg) {a : Addr} {od an : Option Addr} {sl : Array (Option Value)} {oc kV dc pm cd ct : Value}
    (n : PySem.W.nsIn K mainGlobals "ordinal_product" = some (some (.ref a))) (l : K.lookup a = some ⟨oc, od, .func (PySem.W.fnOf "ordinal_product" "ordinal_product" (defArgs (topS 12)) (defBody (topS 12)) (defScope (topS 12)) .none kV dc pm an cd ct), sl⟩)
    (c : PySem.W.codeIn K cd "ordinal_product" = true) (k : PySem.W.keepIn K (.ref a) = true) : ∃ a fd, DefAt K mg sg "ordinal_product" f_ordinal_product a fd := by
  refine ⟨a, PySem.W.fnOf "ordinal_product" "ordinal_product" (defArgs (topS 12)) (defBody (topS 12)) (defScope (topS 12)) .none kV dc pm an cd ct, PySem.W.mg_of KX G n, ⟨topS 12, "ordinal_product", fun_mk l c k, scope_ordinal_product, look_ordinal_product⟩, fun s us hl => ?_, fun ks np perm hm => ?_⟩
  · match us, hl with
    | [_, _], _ => exact .of_eq rfl
  · cases hm
theorem def__law_source {K : PySem.W.Frag} {h : Heap} {mg : Str → Option Value} (KX : K.In h) (G : h.Ns mainGlobals mg) {a : Addr} {od an : Option Addr} {sl : Array (Option Value)} {oc kV dc pm cd ct : Value}
    (n : PySem.W.nsIn K mainGlobals "_law_source" = some (some (.ref a))) (l : K.lookup a = some ⟨oc, od, .func (PySem.W.fnOf "_law_source" "_law_source" (defArgs (topS 14)) (defBody (topS 14)) (defScope (topS 14)) .none kV dc pm an cd ct), sl⟩)
    (c : PySem.W.codeIn K cd "_law_source" = true) (k : PySem.W.keepIn K (.ref a) = true) : ∃ a fd, DefAt K mg sg "_law_source" f__law_source a fd := by
  refine ⟨a, PySem.W.fnOf "_law_source" "_law_source" (defArgs (topS 14)) (defBody (topS 14)) (defScope (topS 14)) .none kV dc pm an cd ct, PySem.W.mg_of KX G n, ⟨topS 14, "_law_source", fun_mk l c k, scope__law_source, look__law_source⟩, fun s us hl => ?_, fun ks np perm hm => ?_⟩
  · match us, hl with
    | [_, _], _ => exact .of_eq rfl
  · cases hm
theorem def__law_draw {K : PySem.W.Frag} {h : Heap} {mg : Str → Option Value} (KX : K.In h) (G : h.Ns mainGlobals mg) {a : Addr} {od an : Option Addr} {sl : Array (Option Value)} {oc kV dc pm cd ct : Value}
    (n : PySem.W.nsIn K mainGlobals "_law_draw" = some (some (.ref a))) (l : K.lookup a = some ⟨oc, od, .func (PySem.W.fnOf "_law_draw" "_law_draw" (defArgs (topS 15)) (defBody (topS 15)) (defScope (topS 15)) .none kV dc pm an cd ct), sl⟩)
    (c : PySem.W.codeIn K cd "_law_draw" = true) (k : PySem.W.keepIn K (.ref a) = true) : ∃ a fd, DefAt K mg sg "_law_draw" f__law_draw a fd := by
  refine ⟨a, PySem.W.fnOf "_law_draw" "_law_draw" (defArgs (topS 15)) (defBody (topS 15)) (defScope (topS 15)) .none kV dc pm an cd ct, PySem.W.mg_of KX G n, ⟨topS 15, "_law_draw", fun_mk l c k, scope__law_draw, look__law_draw⟩, fun s us hl => ?_, fun ks np perm hm => ?_⟩
  · match us, hl with
    | [_, _], _ => exact .of_eq rfl
  · cases hm
theorem def__law_ordinal {K : PySem.W.Frag} {h : Heap} {mg : Str → Option Value} (KX : K.In h) (G : h.Ns mainGlobals mg) {a : Addr} {od an : Option Addr} {sl : Array (Option Value)} {oc kV dc pm cd ct : Value}
    (n : PySem.W.nsIn K mainGlobals "_law_ordinal" = some (some (.ref a))) (l : K.lookup a = some ⟨oc, od, .func (PySem.W.fnOf "_law_ordinal" "_law_ordinal" (defArgs (topS 16)) (defBody (topS 16)) (defScope (topS 16)) .none kV dc pm an cd ct), sl⟩)
    (c : PySem.W.codeIn K cd "_law_ordinal" = true) (k : PySem.W.keepIn K (.ref a) = true) : ∃ a fd, DefAt K mg sg "_law_ordinal" f__law_ordinal a fd := by
  refine ⟨a, PySem.W.fnOf "_law_ordinal" "_law_ordinal" (defArgs (topS 16)) (defBody (topS 16)) (defScope (topS 16)) .none kV dc pm an cd ct, PySem.W.mg_of KX G n, ⟨topS 16, "_law_ordinal", fun_mk l c k, scope__law_ordinal, look__law_ordinal⟩, fun s us hl => ?_, fun ks np perm hm => ?_⟩
  · match us, hl with
    | [_, _], _ => exact .of_eq rfl
  · cases hm
theorem def__law_near {K : PySem.W.Frag} {h : Heap} {mg : Str → Option Value} (KX : K.In h) (G : h.Ns mainGlobals mg) {a : Addr} {od an : Option Addr} {sl : Array (Option Value)} {oc kV dc pm cd ct : Value}
    (n : PySem.W.nsIn K mainGlobals "_law_near" = some (some (.ref a))) (l : K.lookup a = some ⟨oc, od, .func (PySem.W.fnOf "_law_near" "_law_near" (defArgs (topS 17)) (defBody (topS 17)) (defScope (topS 17)) .none kV dc pm an cd ct), sl⟩)
    (c : PySem.W.codeIn K cd "_law_near" = true) (k : PySem.W.keepIn K (.ref a) = true) : ∃ a fd, DefAt K mg sg "_law_near" f__law_near a fd := by
  refine ⟨a, PySem.W.fnOf "_law_near" "_law_near" (defArgs (topS 17)) (defBody (topS 17)) (defScope (topS 17)) .none kV dc pm an cd ct, PySem.W.mg_of KX G n, ⟨topS 17, "_law_near", fun_mk l c k, scope__law_near, look__law_near⟩, fun s us hl => ?_, fun ks np perm hm => ?_⟩
  · match us, hl with
    | [_, _, _], _ => exact .of_eq rfl
  · cases hm
theorem def__law_about {K : PySem.W.Frag} {h : Heap} {mg : Str → Option Value} (KX : K.In h) (G : h.Ns mainGlobals mg) {a : Addr} {od an : Option Addr} {sl : Array (Option Value)} {oc kV dc pm cd ct : Value}
    (n : PySem.W.nsIn K mainGlobals "_law_about" = some (some (.ref a))) (l : K.lookup a = some ⟨oc, od, .func (PySem.W.fnOf "_law_about" "_law_about" (defArgs (topS 18)) (defBody (topS 18)) (defScope (topS 18)) .none kV dc pm an cd ct), sl⟩)
    (c : PySem.W.codeIn K cd "_law_about" = true) (k : PySem.W.keepIn K (.ref a) = true) : ∃ a fd, DefAt K mg sg "_law_about" f__law_about a fd := by
  refine ⟨a, PySem.W.fnOf "_law_about" "_law_about" (defArgs (topS 18)) (defBody (topS 18)) (defScope (topS 18)) .none kV dc pm an cd ct, PySem.W.mg_of KX G n, ⟨topS 18, "_law_about", fun_mk l c k, scope__law_about, look__law_about⟩, fun s us hl => ?_, fun ks np perm hm => ?_⟩
  · match us, hl with
    | [_, _], _ => exact .of_eq rfl
  · cases hm
theorem def__law_rest {K : PySem.W.Frag} {h : Heap} {mg : Str → Option Value} (KX : K.In h) (G : h.Ns mainGlobals mg) {a : Addr} {od an : Option Addr} {sl : Array (Option Value)} {oc kV dc pm cd ct : Value}
    (n : PySem.W.nsIn K mainGlobals "_law_rest" = some (some (.ref a))) (l : K.lookup a = some ⟨oc, od, .func (PySem.W.fnOf "_law_rest" "_law_rest" (defArgs (topS 19)) (defBody (topS 19)) (defScope (topS 19)) .none kV dc pm an cd ct), sl⟩)
    (c : PySem.W.codeIn K cd "_law_rest" = true) (k : PySem.W.keepIn K (.ref a) = true) : ∃ a fd, DefAt K mg sg "_law_rest" f__law_rest a fd := by
  refine ⟨a, PySem.W.fnOf "_law_rest" "_law_rest" (defArgs (topS 19)) (defBody (topS 19)) (defScope (topS 19)) .none kV dc pm an cd ct, PySem.W.mg_of KX G n, ⟨topS 19, "_law_rest", fun_mk l c k, scope__law_rest, look__law_rest⟩, fun s us hl => ?_, fun ks np perm hm => ?_⟩
  · match us, hl with
    | [_, _], _ => exact .of_eq rfl
  · cases hm
theorem def__law_divided {K : PySem.W.Frag} {h : Heap} {mg : Str → Option Value} (KX : K.In h) (G : h.Ns mainGlobals mg) {a : Addr} {od an : Option Addr} {sl : Array (Option Value)} {oc kV dc pm cd ct : Value}
    (n : PySem.W.nsIn K mainGlobals "_law_divided" = some (some (.ref a))) (l : K.lookup a = some ⟨oc, od, .func (PySem.W.fnOf "_law_divided" "_law_divided" (defArgs (topS 20)) (defBody (topS 20)) (defScope (topS 20)) .none kV dc pm an cd ct), sl⟩)
    (c : PySem.W.codeIn K cd "_law_divided" = true) (k : PySem.W.keepIn K (.ref a) = true) : ∃ a fd, DefAt K mg sg "_law_divided" f__law_divided a fd := by
  refine ⟨a, PySem.W.fnOf "_law_divided" "_law_divided" (defArgs (topS 20)) (defBody (topS 20)) (defScope (topS 20)) .none kV dc pm an cd ct, PySem.W.mg_of KX G n, ⟨topS 20, "_law_divided", fun_mk l c k, scope__law_divided, look__law_divided⟩, fun s us hl => ?_, fun ks np perm hm => ?_⟩
  · match us, hl with
    | [_, _], _ => exact .of_eq rfl
  · cases hm
theorem def__law_plus {K : PySem.W.Frag} {h : Heap} {mg : Str → Option Value} (KX : K.In h) (G : h.Ns mainGlobals mg) {a : Addr} {od an : Option Addr} {sl : Array (Option Value)} {oc kV dc pm cd ct : Value}
    (n : PySem.W.nsIn K mainGlobals "_law_plus" = some (some (.ref a))) (l : K.lookup a = some ⟨oc, od, .func (PySem.W.fnOf "_law_plus" "_law_plus" (defArgs (topS 21)) (defBody (topS 21)) (defScope (topS 21)) .none kV dc pm an cd ct), sl⟩)
    (c : PySem.W.codeIn K cd "_law_plus" = true) (k : PySem.W.keepIn K (.ref a) = true) : ∃ a fd, DefAt K mg sg "_law_plus" f__law_plus a fd := by
  refine ⟨a, PySem.W.fnOf "_law_plus" "_law_plus" (defArgs (topS 21)) (defBody (topS 21)) (defScope (topS 21)) .none kV dc pm an cd ct, PySem.W.mg_of KX G n, ⟨topS 21, "_law_plus", fun_mk l c k, scope__law_plus, look__law_plus⟩, fun s us hl => ?_, fun ks np perm hm => ?_⟩
  · match us, hl with
    | [_, _], _ => exact .of_eq rfl
  · cases hm
theorem def__law_right {K : PySem.W.Frag} {h : Heap} {mg : Str → Option Value} (KX : K.In h) (G : h.Ns mainGlobals mg) {a : Addr} {od an : Option Addr} {sl : Array (Option Value)} {oc kV dc pm cd ct : Value}
    (n : PySem.W.nsIn K mainGlobals "_law_right" = some (some (.ref a))) (l : K.lookup a = some ⟨oc, od, .func (PySem.W.fnOf "_law_right" "_law_right" (defArgs (topS 22)) (defBody (topS 22)) (defScope (topS 22)) .none kV dc pm an cd ct), sl⟩)
    (c : PySem.W.codeIn K cd "_law_right" = true) (k : PySem.W.keepIn K (.ref a) = true) : ∃ a fd, DefAt K mg sg "_law_right" f__law_right a fd := by
  refine ⟨a, PySem.W.fnOf "_law_right" "_law_right" (defArgs (topS 22)) (defBody (topS 22)) (defScope (topS 22)) .none kV dc pm an cd ct, PySem.W.mg_of KX G n, ⟨topS 22, "_law_right", fun_mk l c k, scope__law_right, look__law_right⟩, fun s us hl => ?_, fun ks np perm hm => ?_⟩
  · match us, hl with
    | [_], _ => exact .of_eq rfl
  · cases hm
theorem def_law {K : PySem.W.Frag} {h : Heap} {mg : Str → Option Value} (KX : K.In h) (G : h.Ns mainGlobals mg) {a : Addr} {od an : Option Addr} {sl : Array (Option Value)} {oc kV dc pm cd ct : Value}
    (n : PySem.W.nsIn K mainGlobals "law" = some (some (.ref a))) (l : K.lookup a = some ⟨oc, od, .func (PySem.W.fnOf "law" "law" (defArgs (topS 23)) (defBody (topS 23)) (defScope (topS 23)) .none kV dc pm an cd ct), sl⟩)
    (c : PySem.W.codeIn K cd "law" = true) (k : PySem.W.keepIn K (.ref a) = true) : ∃ a fd, DefAt K mg sg "law" f_law a fd := by
  refine ⟨a, PySem.W.fnOf "law" "law" (defArgs (topS 23)) (defBody (topS 23)) (defScope (topS 23)) .none kV dc pm an cd ct, PySem.W.mg_of KX G n, ⟨topS 23, "law", fun_mk l c k, scope_law, look_law⟩, fun s us hl => ?_, fun ks np perm hm => ?_⟩
  · match us, hl with
    | [_], _ => exact .of_eq rfl
  · cases hm
theorem prg {K : PySem.W.Frag} {h : Heap} {mg : Str → Option Value} (KX : K.In h) (G : h.Ns mainGlobals mg)
    (d0 : ∃ a fd, DefAt K mg sg "is_integer" f_is_integer a fd)
    (d1 : ∃ a fd, DefAt K mg sg "is_natural" f_is_natural a fd)
    (d2 : ∃ a fd, DefAt K mg sg "is_ordinal_in" f_is_ordinal_in a fd)
    (d3 : ∃ a fd, DefAt K mg sg "check_ordinals" f_check_ordinals a fd)
    (d4 : ∃ a fd, DefAt K mg sg "sum_in" f_sum_in a fd)
    (d5 : ∃ a fd, DefAt K mg sg "product_in" f_product_in a fd)
    (d6 : ∃ a fd, DefAt K mg sg "ordinal_sum" f_ordinal_sum a fd)
    (d7 : ∃ a fd, DefAt K mg sg "ordinal_product" f_ordinal_product a fd)
    (d8 : ∃ a fd, DefAt K mg sg "_law_source" f__law_source a fd)
    (d9 : ∃ a fd, DefAt K mg sg "_law_draw" f__law_draw a fd)
    (d10 : ∃ a fd, DefAt K mg sg "_law_ordinal" f__law_ordinal a fd)
    (d11 : ∃ a fd, DefAt K mg sg "_law_near" f__law_near a fd)
    (d12 : ∃ a fd, DefAt K mg sg "_law_about" f__law_about a fd)
    (d13 : ∃ a fd, DefAt K mg sg "_law_rest" f__law_rest a fd)
    (d14 : ∃ a fd, DefAt K mg sg "_law_divided" f__law_divided a fd)
    (d15 : ∃ a fd, DefAt K mg sg "_law_plus" f__law_plus a fd)
    (d16 : ∃ a fd, DefAt K mg sg "_law_right" f__law_right a fd)
    (d17 : ∃ a fd, DefAt K mg sg "law" f_law a fd)
    (z0 : PySem.W.nsIn K mainGlobals "isinstance" = some none)
    (z1 : PySem.W.nsIn K mainGlobals "bool" = some none)
    (z2 : PySem.W.nsIn K mainGlobals "int" = some none)
    (z3 : PySem.W.nsIn K mainGlobals "all" = some none)
    (z4 : PySem.W.nsIn K mainGlobals "len" = some none)
    (z5 : PySem.W.nsIn K mainGlobals "tuple" = some none)
    (z6 : PySem.W.nsIn K mainGlobals "zip" = some none)
    (z7 : PySem.W.nsIn K mainGlobals "max" = some none)
    (z8 : PySem.W.nsIn K mainGlobals "abs" = some none)
    (z9 : PySem.W.nsIn K mainGlobals "range" = some none)
    (z10 : PySem.W.nsIn K mainGlobals "sum" = some none)
    (z11 : PySem.W.nsIn K mainGlobals "min" = some none)
    (z12 : PySem.W.nsIn K mainGlobals "repr" = some none)
    : Prg K mg sg := by
  refine ⟨fun f fn hl => ?_, fun x p hx => ?_, fun x hx => ?_⟩
  · have hl : List.lookup f [(("is_integer" : Str), f_is_integer), (("is_natural" : Str), f_is_natural), (("is_ordinal_in" : Str), f_is_ordinal_in), (("check_ordinals" : Str), f_check_ordinals), (("sum_in" : Str), f_sum_in), (("product_in" : Str), f_product_in), (("ordinal_sum" : Str), f_ordinal_sum), (("ordinal_product" : Str), f_ordinal_product), (("_law_source" : Str), f__law_source), (("_law_draw" : Str), f__law_draw), (("_law_ordinal" : Str), f__law_ordinal), (("_law_near" : Str), f__law_near), (("_law_about" : Str), f__law_about), (("_law_rest" : Str), f__law_rest), (("_law_divided" : Str), f__law_divided), (("_law_plus" : Str), f__law_plus), (("_law_right" : Str), f__law_right), (("law" : Str), f_law)] = some fn := hl
    simp only [List.lookup] at hl
    split at hl
    · rename_i he
      cases hl
      rw [beq_iff_eq] at he
      subst he
      exact d0
    split at hl
    · rename_i he
      cases hl
      rw [beq_iff_eq] at he
      subst he
      exact d1
    split at hl
    · rename_i he
      cases hl
      rw [beq_iff_eq] at he
      subst he
      exact d2
    split at hl
    · rename_i he
      cases hl
      rw [beq_iff_eq] at he
      subst he
      exact d3
    split at hl
    · rename_i he
      cases hl
      rw [beq_iff_eq] at he
      subst he
      exact d4
    split at hl
    · rename_i he
      cases hl
      rw [beq_iff_eq] at he
      subst he
      exact d5
    split at hl
    · rename_i he
      cases hl
      rw [beq_iff_eq] at he
      subst he
      exact d6
    split at hl
    · rename_i he
      cases hl
      rw [beq_iff_eq] at he
      subst he
      exact d7
    split at hl
    · rename_i he
      cases hl
      rw [beq_iff_eq] at he
      subst he
      exact d8
    split at hl
    · rename_i he
      cases hl
      rw [beq_iff_eq] at he
      subst he
      exact d9
    split at hl
    · rename_i he
      cases hl
      rw [beq_iff_eq] at he
      subst he
      exact d10
    split at hl
    · rename_i he
      cases hl
      rw [beq_iff_eq] at he
      subst he
      exact d11
    split at hl
    · rename_i he
      cases hl
      rw [beq_iff_eq] at he
      subst he
      exact d12
    split at hl
    · rename_i he
      cases hl
      rw [beq_iff_eq] at he
      subst he
      exact d13
    split at hl
    · rename_i he
      cases hl
      rw [beq_iff_eq] at he
      subst he
      exact d14
    split at hl
    · rename_i he
      cases hl
      rw [beq_iff_eq] at he
      subst he
      exact d15
    split at hl
    · rename_i he
      cases hl
      rw [beq_iff_eq] at he
      subst he
      exact d16
    split at hl
    · rename_i he
      cases hl
      rw [beq_iff_eq] at he
      subst he
      exact d17
    cases hl
  · cases hx
  · have hx : x ∈ [("isinstance" : Str), ("bool" : Str), ("int" : Str), ("all" : Str), ("len" : Str), ("tuple" : Str), ("zip" : Str), ("max" : Str), ("abs" : Str), ("range" : Str), ("sum" : Str), ("min" : Str), ("repr" : Str)] := hx
    simp only [List.mem_cons, List.not_mem_nil, or_false] at hx
    rcases hx with rfl | rfl | rfl | rfl | rfl | rfl | rfl | rfl | rfl | rfl | rfl | rfl | rfl
    · exact PySem.W.mg_none_of KX G z0
    · exact PySem.W.mg_none_of KX G z1
    · exact PySem.W.mg_none_of KX G z2
    · exact PySem.W.mg_none_of KX G z3
    · exact PySem.W.mg_none_of KX G z4
    · exact PySem.W.mg_none_of KX G z5
    · exact PySem.W.mg_none_of KX G z6
    · exact PySem.W.mg_none_of KX G z7
    · exact PySem.W.mg_none_of KX G z8
    · exact PySem.W.mg_none_of KX G z9
    · exact PySem.W.mg_none_of KX G z10
    · exact PySem.W.mg_none_of KX G z11
    · exact PySem.W.mg_none_of KX G z12
end L2.K46
open PySem PySem.W PyProof.Rows
set_option maxRecDepth 100000 in
set_option maxHeartbeats 0 in
theorem PySem.Challenge.cw_scatterrows_k46_whole_divisions_of_ordin_holds : PySem.Challenge.rw_scatterrows_k46_whole_divisions_of_ordin.Holds := by
  w_on; o_law; k_head; (case hw => w_witness2)
  k_fill
  refine L2.Iv.law_true (k := 60) (l := PySem.Challenge.rw_scatterrows_k46_whole_divisions_of_ordin) (g := L2.K46.sg) (x := "script") rfl rfl ⟨rfl, by decide, by decide⟩ (fun w h Y => PySem.W.kIn_of Y) L2.K46.at_law rfl ?F L2.K46.law_ok
  case F =>
    intro w mg fa h KX G hmg
    refine' L2.K46.prg KX G (L2.K46.def_is_integer KX G ?n0 ?l0 ?c0 ?k0) (L2.K46.def_is_natural KX G ?n1 ?l1 ?c1 ?k1) (L2.K46.def_is_ordinal_in KX G ?n2 ?l2 ?c2 ?k2) (L2.K46.def_check_ordinals KX G ?n3 ?l3 ?c3 ?k3) (L2.K46.def_sum_in KX G ?n4 ?l4 ?c4 ?k4) (L2.K46.def_product_in KX G ?n5 ?l5 ?c5 ?k5) (L2.K46.def_ordinal_sum KX G ?n6 ?l6 ?c6 ?k6) (L2.K46.def_ordinal_product KX G ?n7 ?l7 ?c7 ?k7) (L2.K46.def__law_source KX G ?n8 ?l8 ?c8 ?k8) (L2.K46.def__law_draw KX G ?n9 ?l9 ?c9 ?k9) (L2.K46.def__law_ordinal KX G ?n10 ?l10 ?c10 ?k10) (L2.K46.def__law_near KX G ?n11 ?l11 ?c11 ?k11) (L2.K46.def__law_about KX G ?n12 ?l12 ?c12 ?k12) (L2.K46.def__law_rest KX G ?n13 ?l13 ?c13 ?k13) (L2.K46.def__law_divided KX G ?n14 ?l14 ?c14 ?k14) (L2.K46.def__law_plus KX G ?n15 ?l15 ?c15 ?k15) (L2.K46.def__law_right KX G ?n16 ?l16 ?c16 ?k16) (L2.K46.def_law KX G ?n17 ?l17 ?c17 ?k17) ?z0 ?z1 ?z2 ?z3 ?z4 ?z5 ?z6 ?z7 ?z8 ?z9 ?z10 ?z11 ?z12
    (case n0 => k_is)
    (case l0 => k_is)
    (case c0 => k_is)
    (case k0 => k_is)
    (case n1 => k_is)
    (case l1 => k_is)
    (case c1 => k_is)
    (case k1 => k_is)
    (case n2 => k_is)
    (case l2 => k_is)
    (case c2 => k_is)
    (case k2 => k_is)
    (case n3 => k_is)
    (case l3 => k_is)
    (case c3 => k_is)
    (case k3 => k_is)
    (case n4 => k_is)
    (case l4 => k_is)
    (case c4 => k_is)
    (case k4 => k_is)
    (case n5 => k_is)
    (case l5 => k_is)
    (case c5 => k_is)
    (case k5 => k_is)
    (case n6 => k_is)
    (case l6 => k_is)
    (case c6 => k_is)
    (case k6 => k_is)
    (case n7 => k_is)
    (case l7 => k_is)
    (case c7 => k_is)
    (case k7 => k_is)
    (case n8 => k_is)
    (case l8 => k_is)
    (case c8 => k_is)
    (case k8 => k_is)
    (case n9 => k_is)
    (case l9 => k_is)
    (case c9 => k_is)
    (case k9 => k_is)
    (case n10 => k_is)
    (case l10 => k_is)
    (case c10 => k_is)
    (case k10 => k_is)
    (case n11 => k_is)
    (case l11 => k_is)
    (case c11 => k_is)
    (case k11 => k_is)
    (case n12 => k_is)
    (case l12 => k_is)
    (case c12 => k_is)
    (case k12 => k_is)
    (case n13 => k_is)
    (case l13 => k_is)
    (case c13 => k_is)
    (case k13 => k_is)
    (case n14 => k_is)
    (case l14 => k_is)
    (case c14 => k_is)
    (case k14 => k_is)
    (case n15 => k_is)
    (case l15 => k_is)
    (case c15 => k_is)
    (case k15 => k_is)
    (case n16 => k_is)
    (case l16 => k_is)
    (case c16 => k_is)
    (case k16 => k_is)
    (case n17 => k_is)
    (case l17 => k_is)
    (case c17 => k_is)
    (case k17 => k_is)
    (case z0 => k_is)
    (case z1 => k_is)
    (case z2 => k_is)
    (case z3 => k_is)
    (case z4 => k_is)
    (case z5 => k_is)
    (case z6 => k_is)
    (case z7 => k_is)
    (case z8 => k_is)
    (case z9 => k_is)
    (case z10 => k_is)
    (case z11 => k_is)
    (case z12 => k_is)
#print axioms PySem.Challenge.cw_scatterrows_k46_whole_divisions_of_ordin_holds

