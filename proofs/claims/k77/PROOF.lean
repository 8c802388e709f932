import PyProof.Rows.All
import Wide.All
import OpenK.AllK
import Wide.FinOn
import HandS.ForMost
import HandS.ForExc
import HandS.Wide
import HandS.TupAny
import HandS.IsInst
import HandS.Flow
import HandS.Style
import HandS.Zip
import HandS.Conv
import HandS.TupMul
import KE.DataCmp
import KE.DataMinMax
import HandS.Exc
import HandS.ExcInit
import HandS.ExcField
import HandS.ExcIs
import HandS.TryMany
import KE.KExcIs
import KE.KRevSl
import HandS.Sort
import HandS.More
import HandS.Strs
import KE.KDictSum
import HandS.SortInts
import HandS.DictComp
import PySem.Challenge.RW_scatterrows_k77_whole_sayings_known
set_option Elab.async false
set_option linter.all false
set_option autoImplicit false
set_option maxRecDepth 100000
set_option maxHeartbeats 8000000
/-! IvA: a small language of pure data and flat mutable lists, and what it computes. Own work. -/
namespace L2.Iv
open PySem

/-- a value as data: immutable things whole, lists that nobody writes any more (lsv), lists that are written (loc: its number in the store) -/
inductive PV where
  | non | bl (b : Bool) | int (i : Int) | str (s : Str) | tup (xs : List PV) | lsv (xs : List PV) | loc (i : Nat)
  /-- a caught error: the name of its class, the class, its value -/
  | exn (c : Str) (C : Nat) (v : PV)

mutual
def PV.free : PV → Bool
  | .loc _ => false
  | .tup xs => freeAll xs
  | .lsv xs => freeAll xs
  | .non => true
  | .bl _ => true
  | .int _ => true
  | .str _ => true
  | .exn _ _ v => v.free
def freeAll : List PV → Bool
  | [] => true
  | x :: xs => x.free && freeAll xs
end
mutual
/-- immutable data alone -/
def PV.data : PV → Bool
  | .loc _ => false
  | .tup xs => dataAll xs
  | .lsv xs => dataAll xs
  | .non => true
  | .bl _ => true
  | .int _ => true
  | .str _ => true
  | .exn .. => false
def dataAll : List PV → Bool
  | [] => true
  | x :: xs => x.data && dataAll xs
end
mutual
def PV.toD : PV → PyData
  | .loc _ => .none
  | .tup xs => .tuple (toDs xs)
  | .lsv xs => .list (toDs xs)
  | .non => .none
  | .bl b => .bool b
  | .int i => .int i
  | .str s => .str s
  | .exn .. => .none
def toDs : List PV → List PyData
  | [] => []
  | x :: xs => x.toD :: toDs xs
end

abbrev Store := List (List PV)
abbrev Env := List (Option PV)

/-- how a piece of code ends -/
inductive Out (α : Type) where
  | ok (a : α) (st : Store)
  | exc (c : Str) (v : PV) (st : Store)
  | bad
def Out.bind {α β : Type} (o : Out α) (f : α → Store → Out β) : Out β := match o with
  | .ok a st => f a st
  | .exc c v st => .exc c v st
  | .bad => .bad
def Out.of {α : Type} (o : Option α) (st : Store) : Out α := match o with
  | some a => .ok a st
  | none => .bad
/-- no error may leave here -/
def Out.quiet {α : Type} (o : Out α) : Out α := match o with
  | .ok a st => .ok a st
  | _ => .bad
@[simp] theorem bind_ok {α β : Type} (a : α) (st : Store) (f : α → Store → Out β) : (Out.ok a st).bind f = f a st := rfl
@[simp] theorem bind_exc {α β : Type} (c : Str) (v : PV) (st : Store) (f : α → Store → Out β) : (Out.exc c v st).bind f = .exc c v st := rfl
@[simp] theorem bind_bad {α β : Type} (f : α → Store → Out β) : (Out.bad).bind f = .bad := rfl
@[simp] theorem of_some {α : Type} (a : α) (st : Store) : Out.of (some a) st = .ok a st := rfl
@[simp] theorem of_none {α : Type} (st : Store) : Out.of (none : Option α) st = .bad := rfl
@[simp] theorem quiet_ok {α : Type} (a : α) (st : Store) : (Out.ok a st).quiet = .ok a st := rfl

/-! ### single operations -/
/-- the items of a list -/
def seqL (st : Store) : PV → Option (List PV)
  | .lsv xs => some xs
  | .loc i => st[i]?
  | _ => none
/-- the items of a tuple or a list -/
def seqA (st : Store) : PV → Option (List PV)
  | .tup xs => some xs
  | .lsv xs => some xs
  | .loc i => st[i]?
  | _ => none
def newL (fr : Bool) (xs : List PV) (st : Store) : Out PV := if fr = true then .ok (.lsv xs) st else .ok (.loc st.length) (st ++ [xs])
def truthy (st : Store) : PV → Option Bool
  | .non => some false
  | .bl b => some b
  | .int i => some (i != 0)
  | .str s => if s.length ≤ sizeLine then some ((s.length : Int) != 0) else none
  | .tup xs => some (!xs.isEmpty)
  | .lsv xs => some (!xs.isEmpty)
  | .loc i => (st[i]?).map fun xs => !xs.isEmpty
  | .exn .. => none

inductive Bop where
  | add | sub | mul | fdiv | mod | pow | shl | shr | band | bor
inductive Cop where
  | eq | ne | lt | le | gt | ge | isin | notin | is | isnot

def addL (fr : Bool) (st : Store) (a b : PV) : Out PV := match seqL st a, seqL st b with
  | some xs, some ys => if xs.length + ys.length ≤ sizeLine then newL fr (xs ++ ys) st else .bad
  | _, _ => .bad
def addV (fr : Bool) (st : Store) : PV → PV → Out PV
  | .int i, .int j => .ok (.int (i + j)) st
  | .str i, .str j => if i.length + j.length ≤ sizeLine then .ok (.str (i ++ j)) st else .bad
  | .tup xs, .tup ys => if xs.length + ys.length ≤ sizeLine then .ok (.tup (xs ++ ys)) st else .bad
  | a, b => addL fr st a b
def mulL (fr : Bool) (st : Store) (a : PV) (k : Int) : Out PV := match seqL st a with
  | some xs => if -(2 ^ 63) ≤ k ∧ k < 2 ^ 63 ∧ xs.length * k.toNat ≤ sizeLine then newL fr (List.replicate k.toNat xs).flatten st else .bad
  | none => .bad
def mulV (fr : Bool) (st : Store) : PV → PV → Out PV
  | .int i, .int j => if i.natAbs.log2 + j.natAbs.log2 < 1000000 then .ok (.int (i * j)) st else .bad
  | .tup xs, .int k => if xs ≠ [] ∧ 2 ≤ k ∧ k ≤ 1000 ∧ xs.length ≤ 1000 then .ok (.tup (List.replicate k.toNat xs).flatten) st else .bad
  | a, .int k => mulL fr st a k
  | _, _ => .bad
def binV (o : Bop) (fr : Bool) (st : Store) (a b : PV) : Out PV := match o with
  | .add => addV fr st a b
  | .mul => mulV fr st a b
  | .sub => match a, b with
    | .int i, .int j => .ok (.int (i - j)) st
    | _, _ => .bad
  | .fdiv => match a, b with
    | .int i, .int j => if 0 < j ∧ j.natAbs.log2 < 9000 then .ok (.int (i / j)) st else .bad
    | _, _ => .bad
  | .mod => match a, b with
    | .int i, .int j => if 0 < j then .ok (.int (i % j)) st else .bad
    | _, _ => .bad
  | .pow => match a, b with
    | .int i, .int j => if 0 ≤ j ∧ j ≤ 1000000 ∧ i.natAbs < 2 ^ 64 then .ok (.int (i ^ j.toNat)) st else .bad
    | _, _ => .bad
  | .shl => match a, b with
    | .int i, .int j => if 0 ≤ j ∧ j ≤ 1000000 ∧ i.natAbs < 2 ^ 64 then .ok (.int (i * 2 ^ j.toNat)) st else .bad
    | _, _ => .bad
  | .shr => match a, b with
    | .int i, .int j => if 0 ≤ j then .ok (.int (i / 2 ^ j.toNat)) st else .bad
    | _, _ => .bad
  | .band => match a, b with
    | .int i, .int j => .ok (.int (Builtin.bitAnd i j)) st
    | _, _ => .bad
  | .bor => match a, b with
    | .int i, .int j => .ok (.int (Builtin.bitOr i j)) st
    | _, _ => .bad

/-- the same as data: of one kind and shape (what the model's == says of these) -/
def eqvD (a b : PV) : Option Bool :=
  if a.data = true ∧ b.data = true ∧ SeqAt.shaped a.toD = true ∧ SeqAt.shaped b.toD = true then some (PyData.eqv a.toD b.toD) else none
def eqvV (st : Store) : PV → PV → Option Bool
  | .str x, .str y => some (x == y)
  | a, b => eqvD a b
/-- flat things: what in looks through -/
def flatP : PV → Bool
  | .non => true
  | .bl _ => true
  | .int _ => true
  | .str _ => true
  | _ => false
/-- flat things are equal (eqVF x y: the item x, the sought one y) -/
def toV : PV → L2.V
  | .non => .non
  | .bl b => .bl b
  | .int i => .int i
  | .str s => .str s
  | _ => .non
def inP (x : PV) (xs : List PV) : Bool := xs.any fun y => L2.eqV (toV y) (toV x)
/-- the ints of a list -/
def intsOf : List PV → Option (List Int)
  | [] => some []
  | .int i :: r => (intsOf r).map (i :: ·)
  | _ :: _ => none
def blsOf : List PV → Option (List Bool)
  | [] => some []
  | .bl b :: r => (blsOf r).map (b :: ·)
  | _ :: _ => none
/-- data that can be ordered, of few storeys -/
def alikeP (a b : PV) : Bool := a.data && b.data && PySem.W.alike a.toD a.toD && PySem.W.alike a.toD b.toD && PySem.W.alike b.toD a.toD && PySem.W.alike b.toD b.toD && decide (a.toD.depth ≤ 64) && decide (b.toD.depth ≤ 64)
/-- a < b, two tuples -/
def ltP (a b : PV) : Option Bool := if alikeP a b = true then some (PySem.W.dataLt a.toD b.toD) else none
def cmpV (o : Cop) (st : Store) (a b : PV) : Option Bool := match o with
  | .eq => eqvV st a b
  | .ne => (eqvV st a b).map (!·)
  | .lt => match a, b with
    | .int i, .int j => some (decide (i < j))
    | .tup xs, .tup ys => ltP (.tup xs) (.tup ys)
    | _, _ => none
  | .le => match a, b with
    | .int i, .int j => some (decide (i ≤ j))
    | _, _ => none
  | .gt => match a, b with
    | .int i, .int j => some (decide (j < i))
    | .tup xs, .tup ys => ltP (.tup ys) (.tup xs)
    | _, _ => none
  | .ge => match a, b with
    | .int i, .int j => some (decide (j ≤ i))
    | _, _ => none
  | .isin => match seqA st b with
    | some xs => if flatP a = true ∧ xs.all flatP = true then some (inP a xs) else none
    | none => none
  | .notin => match seqA st b with
    | some xs => if flatP a = true ∧ xs.all flatP = true then some (!inP a xs) else none
    | none => none
  | .is => match a, b with
    | .bl x, .bl y => some (decide (x = y))
    | x, .non => some (match x with | .non => true | _ => false)
    | _, _ => none
  | .isnot => match a, b with
    | .bl x, .bl y => some (!decide (x = y))
    | x, .non => some (match x with | .non => false | _ => true)
    | _, _ => none
/-- an item by its place -/
def ixV (st : Store) : PV → PV → Option PV
  | .str z, .int i => if z.length ≤ sizeLine then (L2.atI z.cps.toList i).map fun c => .str ⟨#[c]⟩ else none
  | a, .int i => match seqA st a with
    | some xs => L2.atI xs i
    | none => none
  | _, _ => none
def cutP (xs : List PV) (lo hi : Option Int) : List PV := (xs.drop (HT.sIx xs.length 0 lo)).take (HT.sIx xs.length xs.length hi - HT.sIx xs.length 0 lo)
def slV (fr : Bool) (st : Store) (a : PV) (lo hi : Option Int) : Out PV := match a with
  | .tup xs => .ok (.tup (cutP xs lo hi)) st
  | a => match seqL st a with
    | some xs => newL fr (cutP xs lo hi) st
    | none => .bad

/-- x[::-1] -/
def backE (fr : Bool) (st : Store) (x : PV) : Out PV := match x with
  | .tup xs => .ok (.tup xs.reverse) st
  | x => match seqL st x with
    | some xs => newL fr xs.reverse st
    | none => .bad
/-- x[:0:-1] -/
def backN (fr : Bool) (st : Store) (x : PV) : Out PV := match x with
  | .tup xs => .ok (.tup (xs.drop 1).reverse) st
  | _ => .bad
/-- ints in ascending sequence, each once -/
def insD (n : Int) : List Int → List Int
  | [] => [n]
  | m :: r => if n < m then n :: m :: r else if n = m then m :: r else m :: insD n r
def sortD (ns : List Int) : List Int := ns.foldl (fun a n => insD n a) []
/-- built-in functions and types, called -/
inductive Bi where
  | len | abs | max2 | min2 | maxl | minl | sum | any | all | int | tuple | list | repr | divmod
def tyOfP : PV → Option String
  | .non => some "NoneType"
  | .bl _ => some "bool"
  | .int _ => some "int"
  | .str _ => some "str"
  | .tup _ => some "tuple"
  | .lsv _ => some "list"
  | .loc _ => some "list"
  | .exn .. => none
def biV (f : Bi) (fr : Bool) (st : Store) (as : List PV) : Out PV := match f, as with
  | .len, [.str s] => if s.length ≤ sizeLine then .ok (.int s.length) st else .bad
  | .len, [a] => match seqA st a with
    | some xs => .ok (.int xs.length) st
    | none => .bad
  | .abs, [.int i] => .ok (.int (if i < 0 then -i else i)) st
  | .max2, [.int i, .int j] => .ok (.int (if j > i then j else i)) st
  | .min2, [.int i, .int j] => .ok (.int (if j < i then j else i)) st
  | .max2, [.tup xs, .tup ys] => match ltP (.tup xs) (.tup ys) with
    | some b => .ok (if b = true then .tup ys else .tup xs) st
    | none => .bad
  | .min2, [.tup xs, .tup ys] => match ltP (.tup ys) (.tup xs) with
    | some b => .ok (if b = true then .tup ys else .tup xs) st
    | none => .bad
  | .maxl, [a] => match (seqL st a).bind intsOf with
    | some (n :: ns) => .ok (.int (ns.foldl max n)) st
    | _ => .bad
  | .minl, [a] => match (seqL st a).bind intsOf with
    | some (n :: ns) => .ok (.int (ns.foldl min n)) st
    | _ => .bad
  | .sum, [a] => match (seqL st a).bind intsOf with
    | some ns => .ok (.int ns.sum) st
    | _ => .bad
  | .any, [a] => match (seqL st a).bind blsOf with
    | some bs => .ok (.bl (bs.any id)) st
    | _ => .bad
  | .all, [a] => match (seqL st a).bind blsOf with
    | some bs => .ok (.bl (bs.all id)) st
    | _ => .bad
  | .int, [.int i] => .ok (.int i) st
  | .int, [.bl b] => .ok (.int (if b then 1 else 0)) st
  | .tuple, [.tup xs] => .ok (.tup xs) st
  | .tuple, [a] => match seqL st a with
    | some xs => .ok (.tup xs) st
    | none => .bad
  | .list, [a] => match seqA st a with
    | some xs => newL fr xs st
    | none => .bad
  | .repr, [a] => if a.data = true ∧ a.toD.showable = true ∧ a.toD.shown.length ≤ sizeLine ∧ a.toD.depth ≤ 64 then .ok (.str a.toD.shown) st else .bad
  | .divmod, [.int i, .int j] => if 0 < j ∧ j < 1073741824 then .ok (.tup [.int (i / j), .int (i % j)]) st else .bad
  | _, _ => .bad

/-- built-ins that may be called in an except suite -/
def coolBi : Bi → Bool
  | .len => true
  | .abs => true
  | .int => true
  | .tuple => true
  | .list => true
  | .repr => true
  | _ => false
/-- methods of lists that are written -/
inductive Me where
  | append | extend | pop
def meV (m : Me) (st : Store) (i : Nat) (as : List PV) : Out PV := match m, st[i]?, as with
  | .append, some xs, [y] => if xs.length < sizeLine then .ok .non (st.set i (xs ++ [y])) else .bad
  | .extend, some xs, [b] => match seqA st b with
    | some zs => if xs.length + zs.length ≤ sizeLine then .ok .non (st.set i (xs ++ zs)) else .bad
    | none => .bad
  | .pop, some xs, [] => match xs[xs.length - 1]? with
    | some y => .ok y (st.set i xs.dropLast)
    | none => .bad
  | _, _, _ => .bad

/-! ### expressions -/
/-- targets: a slot, or a tuple of targets -/
inductive Pt where
  | n (i : Nat)
  | t2 (a b : Pt)
  | t3 (a b c : Pt)
  | t4 (a b c d : Pt)
  | t5 (a b c d e : Pt)
def Pt.slots : Pt → List Nat
  | .n i => [i]
  | .t2 a b => a.slots ++ b.slots
  | .t3 a b c => a.slots ++ b.slots ++ c.slots
  | .t4 a b c d => a.slots ++ b.slots ++ c.slots ++ d.slots
  | .t5 a b c d e => a.slots ++ b.slots ++ c.slots ++ d.slots ++ e.slots
/-- a value stored to a target (a tuple is taken apart) -/
def asgP : Pt → PV → Env → Option Env
  | .n i, v, env => some (env.set i (some v))
  | .t2 a b, .tup [x, y], env => (asgP a x env).bind (asgP b y)
  | .t3 a b c, .tup [x, y, z], env => ((asgP a x env).bind (asgP b y)).bind (asgP c z)
  | .t4 a b c d, .tup [x, y, z, u], env => (((asgP a x env).bind (asgP b y)).bind (asgP c z)).bind (asgP d u)
  | .t5 a b c d e, .tup [x, y, z, u, v], env => ((((asgP a x env).bind (asgP b y)).bind (asgP c z)).bind (asgP d u)).bind (asgP e v)
  | _, _, _ => none

mutual
inductive Ex where
  /-- a constant -/
  | c (v : PV)
  /-- a name of the def -/
  | v (i : Nat)
  /-- a constant of the module -/
  | g (x : Str)
  | bin (o : Bop) (fr : Bool) (a b : Ex)
  | neg (a : Ex)
  | nt (a : Ex)
  | cmp (o : Cop) (a b : Ex)
  | chn (o o2 : Cop) (a b c : Ex)
  | ands (es : Exs)
  | ors (es : Exs)
  | ite (c a b : Ex)
  | tup (es : Exs)
  | lst (fr : Bool) (es : Exs)
  | ix (a b : Ex)
  /-- a slice: from, to; a part left out -/
  | slA (fr : Bool) (a lo hi : Ex)
  | slF (fr : Bool) (a lo : Ex)
  | slT (fr : Bool) (a hi : Ex)
  /-- x[::-1] -/
  | slR (fr : Bool) (a : Ex)
  /-- x[:0:-1] -/
  | slN (fr : Bool) (a : Ex)
  | call (f : Str) (es : Exs)
  /-- with keywords: the written ones from the left, then for each parameter its place among these -/
  | callk (f : Str) (es : Exs) (ks : Exs) (perm : List Nat)
  | bi (f : Bi) (fr : Bool) (es : Exs)
  | isi (e : Ex) (T : String)
  /-- the value of a caught error; whether something is an error of an own class, of ValueError -/
  | fld (i : Nat)
  | ise (e : Ex) (c : Str)
  | me (m : Me) (i : Nat) (es : Exs)
  /-- a list comprehension, of one clause, of two: own the slots of its own names -/
  | lc (fr : Bool) (own : List Nat) (p : Pt) (it : Ix) (cs : Exs) (e : Ex)
  | lc2 (fr : Bool) (own : List Nat) (p : Pt) (it : Ix) (cs : Exs) (vs2 : List Nat) (p2 : Pt) (it2 : Ix) (cs2 : Exs) (e : Ex)
  /-- sorted({e: True for p in it}), ints -/
  | srt (fr : Bool) (own : List Nat) (p : Pt) (it : Ix) (e : Ex)
inductive Exs where
  | nil
  | cons (e : Ex) (es : Exs)
/-- what a loop walks -/
inductive Ix where
  | val (e : Ex)
  | rng1 (a : Ex)
  | rng2 (a b : Ex)
  | rng3 (a b : Ex) (c : Int)
  | zip (a b : Ex)
  | enm (a : Ex)
end
def Exs.length : Exs → Nat
  | .nil => 0
  | .cons _ es => es.length + 1

/-- what stands still while it is walked -/
abbrev Watch := List (Nat × List PV)
def watchOk (w : Watch) (st : Store) : Prop := ∀ p ∈ w, st[p.1]? = some p.2
def watchOf : PV → List PV → Watch
  | .loc i, xs => [(i, xs)]
  | _, _ => []
def rngL (lo : Int) (c : Int) (n : Nat) : List PV := (List.range n).map fun i => .int (lo + (i : Nat) * c)
/-- the ends of a range: told by a word of its own, so that nobody reckons with it by chance -/
def in62 (i : Int) : Prop := -(2 ^ 62) ≤ i ∧ i < 2 ^ 62
def in60 (i : Int) : Prop := -(2 ^ 60) ≤ i ∧ i < 2 ^ 60
open Classical in
noncomputable def rngV1 (st : Store) (x : PV) : Out (List PV × Watch) := match x with
  | .int j => if in62 j then .ok (rngL 0 1 j.toNat, []) st else .bad
  | _ => .bad
open Classical in
noncomputable def rngV2 (st : Store) (x y : PV) : Out (List PV × Watch) := match x, y with
  | .int i, .int j => if in62 i ∧ in62 j then .ok (rngL i 1 (j - i).toNat, []) st else .bad
  | _, _ => .bad
open Classical in
noncomputable def rngV3 (c : Int) (st : Store) (x y : PV) : Out (List PV × Watch) := match x, y with
  | .int i, .int j => if c = -1 ∧ in60 i ∧ in60 j then .ok (rngL i c (i - j).toNat, []) st else .bad
  | _, _ => .bad
def wipeE (env : Env) : List Nat → Env
  | [] => env
  | v :: vs => (wipeE env vs).set v none

def zipL (st : Store) (a b : PV) : Out (List PV × Watch) := match seqL st a, seqL st b with
  | some xs, some ys => .ok ((xs.zip ys).map fun p => .tup [p.1, p.2], watchOf a xs ++ watchOf b ys) st
  | _, _ => .bad
def zipV (st : Store) : PV → PV → Out (List PV × Watch)
  | .tup xs, .tup ys => .ok ((xs.zip ys).map fun p => .tup [p.1, p.2], []) st
  | a, b => zipL st a b
structure Ctx where
  fn : Str → List PV → Store → Out PV
  gl : Str → Option PV
  /-- where the error classes stand -/
  cl : Str → Nat
  /-- the error classes, each with those that it is one of -/
  ec : List (Str × List Str)
/-- is an error of the class c one of x -/
def Ctx.sub (C : Ctx) (c x : Str) : Option Bool := (C.ec.lookup c).map fun l => decide (x ∈ l)
/-- isinstance(v, x), x an error class -/
def iseV (C : Ctx) (x : Str) : PV → Option Bool
  | .non => some false
  | .exn c D _ => if D = C.cl c then C.sub c x else none
  | _ => none

open Classical in
/-- a comprehension's turns -/
noncomputable def compF (w : Watch) (f : PV → Store → Out (List PV)) : List PV → List PV → Store → Out (List PV)
  | [], acc, st => if watchOk w st then .ok acc st else .bad
  | x :: xs, acc, st => if watchOk w st then (f x st).bind fun ys st1 => if acc.length + ys.length ≤ sizeLine then compF w f xs (acc ++ ys) st1 else .bad else .bad

mutual
noncomputable def evE (C : Ctx) : Ex → Env → Store → Out PV
  | .c v, _, st => .ok v st
  | .v i, env, st => match env[i]? with
    | some (some v) => .ok v st
    | _ => .bad
  | .g x, _, st => .of (C.gl x) st
  | .bin o fr a b, env, st => (evE C a env st).bind fun x st1 => (evE C b env st1).bind fun y st2 => binV o fr st2 x y
  | .neg a, env, st => (evE C a env st).bind fun x st1 => match x with
    | .int i => .ok (.int (-i)) st1
    | _ => .bad
  | .nt a, env, st => (evE C a env st).bind fun x st1 => match truthy st1 x with
    | some b => .ok (.bl (!b)) st1
    | none => .bad
  | .cmp o a b, env, st => (evE C a env st).bind fun x st1 => (evE C b env st1).bind fun y st2 => (Out.of (cmpV o st2 x y) st2).bind fun b st3 => .ok (.bl b) st3
  | .chn o o2 a b c, env, st => (evE C a env st).bind fun x st1 => (evE C b env st1).bind fun y st2 => (Out.of (cmpV o st2 x y) st2).bind fun k st3 =>
      if k = true then (evE C c env st3).bind fun z st4 => (Out.of (cmpV o2 st4 y z) st4).bind fun b st5 => .ok (.bl b) st5 else .ok (.bl false) st3
  | .ands es, env, st => evAnd C es env st
  | .ors es, env, st => evOr C es env st
  | .ite c a b, env, st => (evE C c env st).bind fun x st1 => match truthy st1 x with
    | some true => evE C a env st1
    | some false => evE C b env st1
    | none => .bad
  | .tup es, env, st => (evEs C es env st).bind fun xs st1 => if xs.length ≤ sizeLine then .ok (.tup xs) st1 else .bad
  | .lst fr es, env, st => (evEs C es env st).bind fun xs st1 => if xs.length ≤ sizeLine then newL fr xs st1 else .bad
  | .ix a b, env, st => (evE C a env st).bind fun x st1 => (evE C b env st1).bind fun y st2 => .of (ixV st2 x y) st2
  | .slA fr a lo hi, env, st => (evE C a env st).bind fun x st1 => (evE C lo env st1).bind fun y st2 => match y with
    | .int i => (evE C hi env st2).bind fun z st3 => match z with
      | .int j => slV fr st3 x (some i) (some j)
      | _ => .bad
    | _ => .bad
  | .slF fr a lo, env, st => (evE C a env st).bind fun x st1 => (evE C lo env st1).bind fun y st2 => match y with
    | .int i => slV fr st2 x (some i) none
    | _ => .bad
  | .slT fr a hi, env, st => (evE C a env st).bind fun x st1 => (evE C hi env st1).bind fun y st2 => match y with
    | .int i => slV fr st2 x none (some i)
    | _ => .bad
  | .slR fr a, env, st => (evE C a env st).bind fun x st1 => backE fr st1 x
  | .slN fr a, env, st => (evE C a env st).bind fun x st1 => backN fr st1 x
  | .srt fr own p it e, env, st => (evIx C it env st).bind fun xw st1 => (compF xw.2 (fun x st => match asgP p x (wipeE env own) with
      | some env1 => (evE C e env1 st).quiet.bind fun y st2 => match y with
        | .int i => .ok [.int i] st2
        | _ => .bad
      | none => .bad) xw.1 [] st1).bind fun ys st2 => match intsOf ys with
        | some ns => newL fr ((sortD ns).map .int) st2
        | none => .bad
  | .call f es, env, st => (evEs C es env st).bind fun xs st1 => C.fn f xs st1
  | .callk f es ks perm, env, st => (evEs C es env st).bind fun xs st1 => (evEs C ks env st1).bind fun ys st2 => match perm.mapM fun i => (xs ++ ys)[i]? with
    | some zs => C.fn f zs st2
    | none => .bad
  | .bi f fr es, env, st => (evEs C es env st).bind fun xs st1 => biV f fr st1 xs
  | .isi e T, env, st => (evE C e env st).bind fun x st1 => match (tyOfP x).bind fun U => L2.kitB U T with
    | some b => .ok (.bl b) st1
    | none => .bad
  | .fld i, env, st => match env[i]? with
    | some (some (.exn c D v)) => if D = C.cl c ∧ (C.ec.lookup c).isSome = true then .ok v st else .bad
    | _ => .bad
  | .ise e c, env, st => (evE C e env st).bind fun x st1 => match iseV C c x with
    | some b => .ok (.bl b) st1
    | none => .bad
  | .me m i es, env, st => match env[i]? with
    | some (some (.loc l)) => (evEs C es env st).bind fun ys st2 => meV m st2 l ys
    | _ => .bad
  | .lc fr own p it cs e, env, st => (evIx C it env st).bind fun xw st1 => (compF xw.2 (fun x st => match asgP p x (wipeE env own) with
      | some env1 => (evTests C cs env1 st).quiet.bind fun b st1 => if b = true then (evE C e env1 st1).quiet.bind fun y st2 => .ok [y] st2 else .ok [] st1
      | none => .bad) xw.1 [] st1).bind fun ys st2 => newL fr ys st2
  | .lc2 fr own p it cs vs2 p2 it2 cs2 e, env, st => (evIx C it env st).bind fun xw st1 => (compF xw.2 (fun x st => match asgP p x (wipeE env own) with
      | some env1 => (evTests C cs env1 st).quiet.bind fun b st1 => if b = true then (evIx C it2 env1 st1).quiet.bind fun xw2 st2 => compF xw2.2 (fun x2 st => match asgP p2 x2 (wipeE env1 vs2) with
          | some env2 => (evTests C cs2 env2 st).quiet.bind fun b st1 => if b = true then (evE C e env2 st1).quiet.bind fun y st2 => .ok [y] st2 else .ok [] st1
          | none => .bad) xw2.1 [] st2 else .ok [] st1
      | none => .bad) xw.1 [] st1).bind fun ys st2 => newL fr ys st2
noncomputable def evEs (C : Ctx) : Exs → Env → Store → Out (List PV)
  | .nil, _, st => .ok [] st
  | .cons e es, env, st => (evE C e env st).bind fun x st1 => (evEs C es env st1).bind fun xs st2 => .ok (x :: xs) st2
noncomputable def evAnd (C : Ctx) : Exs → Env → Store → Out PV
  | .nil, _, _ => .bad
  | .cons e .nil, env, st => evE C e env st
  | .cons e es, env, st => (evE C e env st).bind fun x st1 => match truthy st1 x with
    | some true => evAnd C es env st1
    | some false => .ok x st1
    | none => .bad
noncomputable def evOr (C : Ctx) : Exs → Env → Store → Out PV
  | .nil, _, _ => .bad
  | .cons e .nil, env, st => evE C e env st
  | .cons e es, env, st => (evE C e env st).bind fun x st1 => match truthy st1 x with
    | some true => .ok x st1
    | some false => evOr C es env st1
    | none => .bad
/-- a comprehension's tests: none or one -/
noncomputable def evTests (C : Ctx) : Exs → Env → Store → Out Bool
  | .nil, _, st => .ok true st
  | .cons e _, env, st => (evE C e env st).bind fun x st1 => .of (truthy st1 x) st1
noncomputable def evIx (C : Ctx) : Ix → Env → Store → Out (List PV × Watch)
  | .val e, env, st => (evE C e env st).bind fun x st1 => match seqA st1 x with
    | some xs => .ok (xs, watchOf x xs) st1
    | none => .bad
  | .rng1 a, env, st => (evE C a env st).bind fun x st1 => rngV1 st1 x
  | .rng2 a b, env, st => (evE C a env st).bind fun x st1 => (evE C b env st1).bind fun y st2 => rngV2 st2 x y
  | .rng3 a b c, env, st => (evE C a env st).bind fun x st1 => (evE C b env st1).bind fun y st2 => rngV3 c st2 x y
  | .zip a b, env, st => (evE C a env st).bind fun x st1 => (evE C b env st1).bind fun y st2 => zipV st2 x y
  | .enm a, env, st => (evE C a env st).bind fun x st1 => match seqL st1 x with
    | some xs => .ok (xs.zipIdx.map fun p => .tup [.int (p.2 : Nat), p.1], watchOf x xs) st1
    | none => .bad
end

/-! ### statements -/
/-- a op= b -/
def augV (o : Bop) : PV → PV → Option PV
  | .int a, .int b => match o with
    | .add => some (.int (a + b))
    | .sub => some (.int (a - b))
    | _ => none
  | .str a, .str b => match o with
    | .add => if a.length + b.length ≤ sizeLine then some (.str (a ++ b)) else none
    | _ => none
  | _, _ => none
/-- o[i], o a list that is written -/
def locV (st : Store) : PV → PV → Option PV
  | .loc l, .int k => match st[l]? with
    | some xs => L2.atI xs k
    | none => none
  | _, _ => none
/-- o[i] = x -/
def setV (st : Store) : PV → PV → PV → Option Store
  | .loc l, .int k, x => match st[l]? with
    | some xs => (L2.ixN xs.length k).map fun j => st.set l (xs.set j x)
    | none => none
  | _, _, _ => none
inductive Fl where
  | nx (env : Env)
  | bk (env : Env)
  | ct (env : Env)
  | rt (v : PV)
  /-- an error of the class c with the value v, the names as they are -/
  | rz (c : Str) (v : PV) (env : Env)
/-- behind an expression within a statement: an error is a way to end -/
def Out.lift {α : Type} (o : Out α) (env : Env) (f : α → Store → Out Fl) : Out Fl := match o with
  | .ok a st => f a st
  | .exc c v st => .ok (.rz c v env) st
  | .bad => .bad
@[simp] theorem lift_ok {α : Type} (a : α) (st : Store) (env : Env) (f : α → Store → Out Fl) : (Out.ok a st).lift env f = f a st := rfl
@[simp] theorem lift_exc {α : Type} (c : Str) (v : PV) (st : Store) (env : Env) (f : α → Store → Out Fl) : (Out.exc c v st : Out α).lift env f = .ok (.rz c v env) st := rfl
@[simp] theorem lift_bad {α : Type} (env : Env) (f : α → Store → Out Fl) : (Out.bad : Out α).lift env f = .bad := rfl
/-- what is stored to: names, or an item of a list -/
inductive Ta where
  | p (p : Pt)
  | sub (o i : Ex)
mutual
inductive Sx where
  | expr (e : Ex)
  | asg (t : Ta) (e : Ex)
  | aug (i : Nat) (o : Bop) (e : Ex)
  /-- o[i] op= e, a list that is written -/
  | augS (o i : Ex) (op : Bop) (e : Ex)
  | iff (c : Ex) (a b : Sxs)
  | fr (p : Pt) (it : Ix) (b : Sxs)
  | wh (c : Ex) (b : Sxs)
  | ret (e : Ex)
  | retn
  | brk
  | cont
  | pass
  /-- a raise that is never reached -/
  | nev
  /-- raise c(e) -/
  | rs (c : Str) (e : Ex)
  /-- try: b, except .. -/
  | tr (b : Sxs) (hs : Hds)
inductive Sxs where
  | nil
  | cons (s : Sx) (r : Sxs)
/-- except clauses: the class, the slot of the name -/
inductive Hds where
  | nil
  | cons (c : Str) (i : Option Nat) (b : Sxs) (r : Hds)
end
open Classical in
noncomputable def loopF (w : Watch) (f : PV → Env → Store → Out Fl) : List PV → Env → Store → Out Fl
  | [], env, st => if watchOk w st then .ok (.nx env) st else .bad
  | x :: xs, env, st => if watchOk w st then (f x env st).bind fun r st1 => match r with
    | .nx e => loopF w f xs e st1
    | .ct e => loopF w f xs e st1
    | .bk e => .ok (.nx e) st1
    | .rt v => .ok (.rt v) st1
    | .rz c v e => .ok (.rz c v e) st1 else .bad
def whN (c : Env → Store → Out Bool) (f : Env → Store → Out Fl) : Nat → Env → Store → Out Fl
  | 0, _, _ => .bad
  | n + 1, env, st => (c env st).lift env fun t st1 => if t = true then (f env st1).bind fun r st2 => match r with
    | .nx e => whN c f n e st2
    | .ct e => whN c f n e st2
    | .bk e => .ok (.nx e) st2
    | .rt v => .ok (.rt v) st2
    | .rz c v e => .ok (.rz c v e) st2 else .ok (.nx env) st1
def wfuel : Nat := 1000000000
noncomputable def evC (C : Ctx) (c : Ex) (env : Env) (st : Store) : Out Bool := (evE C c env st).bind fun x st1 => .of (truthy st1 x) st1
def inH (C : Ctx) (i : Option Nat) (c : Str) (v : PV) (env : Env) : Env := match i with
  | some i => env.set i (some (.exn c (C.cl c) v))
  | none => env
def outH (i : Option Nat) (env : Env) : Env := match i with
  | some i => env.set i none
  | none => env
mutual
noncomputable def evS (C : Ctx) : Sx → Env → Store → Out Fl
  | .expr e, env, st => (evE C e env st).lift env fun _ st1 => .ok (.nx env) st1
  | .asg (.p p) e, env, st => (evE C e env st).lift env fun x st1 => match asgP p x env with
    | some env1 => .ok (.nx env1) st1
    | none => .bad
  | .asg (.sub o i) e, env, st => (evE C e env st).lift env fun x st1 => (evE C o env st1).lift env fun y st2 => (evE C i env st2).lift env fun z st3 => match setV st3 y z x with
    | some st4 => .ok (.nx env) st4
    | none => .bad
  | .aug i o e, env, st => match env[i]? with
    | some (some v) => (evE C e env st).lift env fun x st1 => match augV o v x with
      | some z => .ok (.nx (env.set i (some z))) st1
      | none => .bad
    | _ => .bad
  | .augS o i op e, env, st => (evE C o env st).lift env fun x st1 => (evE C i env st1).lift env fun y st2 => match locV st2 x y with
    | some v => (evE C e env st2).lift env fun z st3 => match augV op v z with
      | some u => match setV st3 x y u with
        | some st4 => .ok (.nx env) st4
        | none => .bad
      | none => .bad
    | none => .bad
  | .iff c a b, env, st => (evC C c env st).lift env fun t st1 => if t = true then evSs C a env st1 else evSs C b env st1
  | .fr p it b, env, st => (evIx C it env st).lift env fun xw st1 => loopF xw.2 (fun x env st => match asgP p x env with
    | some env1 => evSs C b env1 st
    | none => .bad) xw.1 env st1
  | .wh c b, env, st => whN (evC C c) (evSs C b) wfuel env st
  | .ret e, env, st => (evE C e env st).lift env fun x st1 => .ok (.rt x) st1
  | .retn, _, st => .ok (.rt .non) st
  | .brk, env, st => .ok (.bk env) st
  | .cont, env, st => .ok (.ct env) st
  | .pass, env, st => .ok (.nx env) st
  | .nev, _, _ => .bad
  | .rs c e, env, st => (evE C e env st).lift env fun x st1 => if (C.ec.lookup c).isSome = true then .ok (.rz c x env) st1 else .bad
  | .tr b hs, env, st => (evSs C b env st).bind fun f st1 => match f with
    | .rz c v e => evH C hs c v e st1
    | f => .ok f st1
noncomputable def evSs (C : Ctx) : Sxs → Env → Store → Out Fl
  | .nil, env, st => .ok (.nx env) st
  | .cons s r, env, st => (evS C s env st).bind fun f st1 => match f with
    | .nx env1 => evSs C r env1 st1
    | .bk e => .ok (.bk e) st1
    | .ct e => .ok (.ct e) st1
    | .rt v => .ok (.rt v) st1
    | .rz c v e => .ok (.rz c v e) st1
noncomputable def evH (C : Ctx) : Hds → Str → PV → Env → Store → Out Fl
  | .nil, c, v, env, st => .ok (.rz c v env) st
  | .cons x i b r, c, v, env, st => match C.sub c x with
    | some true => (evSs C b (inH C i c v env) st).bind fun f st1 => match f with
      | .nx e => .ok (.nx (outH i e)) st1
      | .bk e => .ok (.bk (outH i e)) st1
      | .ct e => .ok (.ct (outH i e)) st1
      | .rt p => .ok (.rt p) st1
      | .rz .. => .bad
    | some false => evH C r c v env st
    | none => .bad
end

/-! ### calls -/
structure Fn where
  ps : List Str
  N : List Str
  body : Sxs
  /-- it hands back a list of its own that the caller may write -/
  mt : Bool
def locs : List PV → List Nat
  | [] => []
  | .loc i :: r => if i ∈ locs r then locs r else i :: locs r
  | _ :: r => locs r
/-- arguments in the callee's own numbers -/
def ren (ls : List Nat) : PV → PV
  | .loc i => .loc (ls.idxOf i)
  | v => v
def argOk : PV → Bool
  | .loc _ => true
  | v => v.free
/-- the callee's store: the lists that it is handed, flat ones -/
def subSt (st : Store) : List Nat → Option Store
  | [] => some []
  | i :: r => match st[i]? with
    | some xs => if freeAll xs = true then (subSt st r).map (xs :: ·) else none
    | none => none
def putSt (st : Store) : List Nat → Store → Store
  | i :: r, xs :: s => (putSt st r s).set i xs
  | _, _ => st
def flatSt (st : Store) : Bool := st.all freeAll
/-- a value handed back, its own lists frozen -/
def frz (m : Nat) (st : Store) : Nat → PV → Option PV
  | 0, v => if v.free = true then some v else none
  | k + 1, v => if v.free = true then some v else match v with
    | .loc i => if i < m then none else match st[i]? with
      | some xs => (xs.mapM (frz m st k)).map .lsv
      | none => none
    | .tup xs => (xs.mapM (frz m st k)).map .tup
    | .lsv xs => (xs.mapM (frz m st k)).map .lsv
    | _ => none
noncomputable def runB (C : Ctx) (fn : Fn) (args : List PV) (st : Store) : Out PV := (evSs C fn.body (args.map some ++ List.replicate (fn.N.length - args.length) none) st).quiet.bind fun f st1 => match f with
  | .rt v => .ok v st1
  | .nx _ => .ok .non st1
  | .rz c v _ => .exc c v st1
  | _ => .bad
/-- behind a call -/
def backV (mt : Bool) (ls : List Nat) (st : Store) (v : PV) (s2 : Store) : Out PV :=
  let m := ls.length
  if m ≤ s2.length ∧ flatSt (s2.take m) = true then
    let st2 := putSt st ls (s2.take m)
    if mt = true then match v with
      | .loc j => match s2[j]? with
        | some xs => if m ≤ j ∧ freeAll xs = true then .ok (.loc st2.length) (st2 ++ [xs]) else .bad
        | none => .bad
      | _ => .bad
    else match frz m s2 64 v with
      | some v' => .ok v' st2
      | none => .bad
  else .bad
noncomputable def callF (cl : Str → Nat) (ec : List (Str × List Str)) (tb : List (Str × Fn)) (gl : Str → Option PV) : Nat → Str → List PV → Store → Out PV
  | 0, _, _, _ => .bad
  | n + 1, f, args, st => match tb.lookup f with
    | none => .bad
    | some fn => if args.length = fn.ps.length ∧ args.all argOk = true then match subSt st (locs args) with
        | some sub => match runB ⟨callF cl ec tb gl n, gl, cl, ec⟩ fn (args.map (ren (locs args))) sub with
          | .ok v s2 => backV fn.mt (locs args) st v s2
          | .exc c v s2 => (backV false (locs args) st v s2).bind fun v' st2 => .exc c v' st2
          | .bad => .bad
        | none => .bad
      else .bad
end L2.Iv

/-! IvB: how the abstract heap bears the data. Own work. -/
namespace L2.Iv
open PySem PySem.Spec PyProof.Rows

/-- a list that nobody writes any more -/
def SqF (K : PySem.W.Frag) (F : List Addr) (H : Hp) (r : List Addr) (a : Addr) (vs : List V) : Prop :=
  (H a = some (.lst vs) ∧ a ∉ r ∧ a ∉ F) ∨ (∃ o, H a = some (.frz o (.lst vs))) ∨
    ∃ (o : Obj) (its : Array Value) (n : Nat), K.lookup a = some o ∧ o.cls = .type "list" ∧ o.dict = none ∧ o.data = .seq its n ∧ its.size ≤ sizeLine ∧ Vals vs its.toList
theorem SqF.seq {K : PySem.W.Frag} {F : List Addr} {H : Hp} {r : List Addr} {a : Addr} {vs : List V} (h : SqF K F H r a vs) : SqL K H a vs := by
  rcases h with ⟨h, _⟩ | h | h
  · exact .inl (.inl h)
  · exact .inl (.inr h)
  · exact .inr h

/-- the object at a is an error of the class C, its dict at dd -/
def excP (a C dd : Addr) : Heap → Prop := fun h => ∃ o, h.get? a = some o ∧ Zc (.ref C) (some dd) o ∧ ∃ vs, o.data = .fields vs
mutual
inductive Rep (K : PySem.W.Frag) (F : List Addr) (H : Hp) (r : List Addr) : V → PV → Prop
  | non : Rep K F H r .non .non
  | bl (b : Bool) : Rep K F H r (.bl b) (.bl b)
  | int (i : Int) : Rep K F H r (.int i) (.int i)
  | str (x : Str) : Rep K F H r (.str x) (.str x)
  | lsv {a : Addr} {vs : List V} {ds : List PV} : SqF K F H r a vs → Reps K F H r vs ds → Rep K F H r (.ref a) (.lsv ds)
  | tup {a : Addr} {vs : List V} {ds : List PV} : SqT K H a vs → Reps K F H r vs ds → Rep K F H r (.ref a) (.tup ds)
  | loc {a : Addr} {i : Nat} : r[i]? = some a → Rep K F H r (.ref a) (.loc i)
  | exn {a C dd : Addr} {c : Str} {v : V} {d : PV} : H a = some (.ext (excP a C dd)) → H dd = some (.xd [("value", v)]) → Rep K F H r v d → Rep K F H r (.ref a) (.exn c C d)
inductive Reps (K : PySem.W.Frag) (F : List Addr) (H : Hp) (r : List Addr) : List V → List PV → Prop
  | nil : Reps K F H r [] []
  | cons {v : V} {vs : List V} {d : PV} {ds : List PV} : Rep K F H r v d → Reps K F H r vs ds → Reps K F H r (v :: vs) (d :: ds)
end

structure Rel (K : PySem.W.Frag) (F : List Addr) (H : Hp) (r : List Addr) (st : Store) : Prop where
  len : r.length = st.length
  nd : r.Nodup
  cells : ∀ (i : Nat) (a : Addr) (xs : List PV), r[i]? = some a → st[i]? = some xs → ∃ vs, H a = some (.lst vs) ∧ Reps K F H r vs xs
  apart : ∀ a ∈ r, a ∉ F
  fs : ∀ a ∈ F, ∃ vs : List V, H a = some (.lst vs)

/-- the state later on: more lists, what is no list of ours as it was -/
structure Aft (r : List Addr) (H : Hp) (r' : List Addr) (H' : Hp) : Prop where
  pre : ∃ r2, r' = r ++ r2
  keep : ∀ a o, H a = some o → a ∉ r → H' a = some o ∧ a ∉ r'

section
variable {K : PySem.W.Frag} {F : List Addr} {H H' H1 H2 : Hp} {r r' r1 r2 : List Addr} {st st' : Store} {v : V} {p : PV} {vs : List V} {ps : List PV}

theorem Aft.refl : Aft r H r H := ⟨⟨[], by simp⟩, fun _ _ e n => ⟨e, n⟩⟩
theorem Aft.trans (a : Aft r H r1 H1) (b : Aft r1 H1 r2 H2) : Aft r H r2 H2 := by
  obtain ⟨x, e1⟩ := a.pre
  obtain ⟨y, e2⟩ := b.pre
  refine ⟨⟨x ++ y, by rw [e2, e1, List.append_assoc]⟩, fun c o e n => ?_⟩
  obtain ⟨q1, q2⟩ := a.keep c o e n
  exact b.keep c o q1 q2
theorem Aft.get {i : Nat} {a : Addr} (x : Aft r H r' H') (e : r[i]? = some a) : r'[i]? = some a := by
  obtain ⟨y, e1⟩ := x.pre
  rw [e1, List.getElem?_append_left (List.getElem?_eq_some_iff.mp e).1]
  exact e

theorem Rel.isl (R : Rel K F H r st) {a : Addr} (h : a ∈ r) : ∃ vs, H a = some (.lst vs) := by
  obtain ⟨i, hi, e⟩ := List.mem_iff_getElem.mp h
  have hi2 : i < st.length := by rw [← R.len]; exact hi
  obtain ⟨vs, q, _⟩ := R.cells i a st[i] (by rw [List.getElem?_eq_getElem hi, e]) (List.getElem?_eq_getElem hi2)
  exact ⟨vs, q⟩
theorem Rel.notin (R : Rel K F H r st) {a : Addr} {o : HO} (h : H a = some o) (n : ∀ vs, o ≠ .lst vs) : a ∉ r := fun m => by
  obtain ⟨vs, e⟩ := R.isl m
  rw [h] at e; cases e; exact n vs rfl

theorem SqT.aft {a : Addr} (R : Rel K F H r st) (A : Aft r H r' H') (h : SqT K H a vs) : SqT K H' a vs := by
  rcases h with (h | ⟨o, h⟩) | h
  · exact .inl (.inl (A.keep a _ h (R.notin h (fun _ z => nomatch z))).1)
  · exact .inl (.inr ⟨o, (A.keep a _ h (R.notin h (fun _ z => nomatch z))).1⟩)
  · exact .inr h
theorem SqF.aft {a : Addr} (R : Rel K F H r st) (A : Aft r H r' H') (h : SqF K F H r a vs) : SqF K F H' r' a vs := by
  rcases h with ⟨h, n1, n2⟩ | ⟨o, h⟩ | h
  · exact .inl ⟨(A.keep a _ h n1).1, (A.keep a _ h n1).2, n2⟩
  · exact .inr (.inl ⟨o, (A.keep a _ h (R.notin h (fun _ z => nomatch z))).1⟩)
  · exact .inr (.inr h)
mutual
theorem Rep.aft (R : Rel K F H r st) (A : Aft r H r' H') : ∀ {v : V} {p : PV}, Rep K F H r v p → Rep K F H' r' v p
  | _, _, .non => .non
  | _, _, .bl b => .bl b
  | _, _, .int i => .int i
  | _, _, .str x => .str x
  | _, _, .lsv h q => .lsv (h.aft R A) (Reps.aft R A q)
  | _, _, .tup h q => .tup (SqT.aft R A h) (Reps.aft R A q)
  | _, _, .loc e => .loc (A.get e)
  | _, _, .exn h1 h2 q => .exn (A.keep _ _ h1 (R.notin h1 (fun _ z => nomatch z))).1 (A.keep _ _ h2 (R.notin h2 (fun _ z => nomatch z))).1 (Rep.aft R A q)
theorem Reps.aft (R : Rel K F H r st) (A : Aft r H r' H') : ∀ {vs : List V} {ps : List PV}, Reps K F H r vs ps → Reps K F H' r' vs ps
  | _, _, .nil => .nil
  | _, _, .cons h q => .cons (Rep.aft R A h) (Reps.aft R A q)
end
theorem Reps.length : ∀ {vs : List V} {ps : List PV}, Reps K F H r vs ps → vs.length = ps.length
  | _, _, .nil => rfl
  | _, _, .cons _ q => congrArg (· + 1) q.length
theorem Reps.get : ∀ {vs : List V} {ps : List PV} {i : Nat} {v : V}, Reps K F H r vs ps → vs[i]? = some v → ∃ p, ps[i]? = some p ∧ Rep K F H r v p
  | _, _, _, _, .nil, e => by simp at e
  | _, _, 0, _, .cons h q, e => by simp at e; subst e; exact ⟨_, rfl, h⟩
  | _, _, i + 1, v, .cons h q, e => by
    obtain ⟨p, h1, h2⟩ := Reps.get (i := i) (v := v) q (by simpa using e)
    exact ⟨p, by simpa using h1, h2⟩
theorem Reps.get2 : ∀ {vs : List V} {ps : List PV} {i : Nat} {p : PV}, Reps K F H r vs ps → ps[i]? = some p → ∃ v, vs[i]? = some v ∧ Rep K F H r v p
  | _, _, _, _, .nil, e => by simp at e
  | _, _, 0, _, .cons h q, e => by simp at e; subst e; exact ⟨_, rfl, h⟩
  | _, _, i + 1, v, .cons h q, e => by
    obtain ⟨p, h1, h2⟩ := Reps.get2 (i := i) (p := v) q (by simpa using e)
    exact ⟨p, by simpa using h1, h2⟩
theorem Reps.append : ∀ {vs ws : List V} {ps qs : List PV}, Reps K F H r vs ps → Reps K F H r ws qs → Reps K F H r (vs ++ ws) (ps ++ qs)
  | _, _, _, _, .nil, s => s
  | _, _, _, _, .cons h q, s => .cons h (q.append s)
theorem Reps.take : ∀ {vs : List V} {ps : List PV} (n : Nat), Reps K F H r vs ps → Reps K F H r (vs.take n) (ps.take n)
  | _, _, 0, _ => .nil
  | _, _, _ + 1, .nil => .nil
  | _, _, n + 1, .cons h q => .cons h (q.take n)
theorem Reps.reverse : ∀ {vs : List V} {ps : List PV}, Reps K F H r vs ps → Reps K F H r vs.reverse ps.reverse
  | _, _, .nil => .nil
  | _, _, .cons h q => by
    rw [List.reverse_cons, List.reverse_cons]
    exact q.reverse.append (.cons h .nil)
theorem Reps.drop : ∀ {vs : List V} {ps : List PV} (n : Nat), Reps K F H r vs ps → Reps K F H r (vs.drop n) (ps.drop n)
  | _, _, 0, q => q
  | _, _, _ + 1, .nil => .nil
  | _, _, n + 1, .cons _ q => q.drop n
theorem Reps.set {v : V} {p : PV} (h : Rep K F H r v p) : ∀ {vs : List V} {ps : List PV} (i : Nat), Reps K F H r vs ps → Reps K F H r (vs.set i v) (ps.set i p)
  | _, _, _, .nil => .nil
  | _, _, 0, .cons _ q => .cons h q
  | _, _, i + 1, .cons h2 q => .cons h2 (q.set h i)
theorem Reps.dropLast {vs : List V} {ps : List PV} (h : Reps K F H r vs ps) : Reps K F H r vs.dropLast ps.dropLast := by
  rw [List.dropLast_eq_take, List.dropLast_eq_take, h.length]
  exact h.take _
theorem Reps.rep {vs : List V} {ps : List PV} (h : Reps K F H r vs ps) : ∀ k : Nat, Reps K F H r (List.replicate k vs).flatten (List.replicate k ps).flatten
  | 0 => .nil
  | k + 1 => by
    rw [List.replicate_succ, List.flatten_cons, List.replicate_succ, List.flatten_cons]
    exact h.append (h.rep k)
theorem Reps.none_of {vs : List V} {ps : List PV} {i : Nat} (h : Reps K F H r vs ps) (e : ps[i]? = none) : vs[i]? = none := by
  have := h.length
  rw [List.getElem?_eq_none_iff] at e ⊢
  omega

/-! ### new things -/
theorem Aft.new {a : Addr} {o : HO} (h : H a = none) : Aft r H r (upd H a o) := ⟨⟨[], by simp⟩, fun b u e n => ⟨by rw [upd_ne (ne_of_none e h)]; exact e, n⟩⟩
theorem Rel.new (R : Rel K F H r st) {a : Addr} {o : HO} (h : H a = none) : Rel K F (upd H a o) r st := by
  refine ⟨R.len, R.nd, fun i b xs e1 e2 => ?_, R.apart, fun b hb => ?_⟩
  · obtain ⟨vs, q1, q2⟩ := R.cells i b xs e1 e2
    exact ⟨vs, by rw [upd_ne (ne_of_none q1 h)]; exact q1, Reps.aft R (Aft.new h) q2⟩
  · obtain ⟨vs, q⟩ := R.fs b hb
    exact ⟨vs, by rw [upd_ne (ne_of_none q h)]; exact q⟩
theorem Rel.fresh (R : Rel K F H r st) {a : Addr} (h : H a = none) : a ∉ r ∧ a ∉ F := by
  refine ⟨fun m => ?_, fun m => ?_⟩
  · obtain ⟨vs, e⟩ := R.isl m
    rw [h] at e; cases e
  · obtain ⟨vs, e⟩ := R.fs a m
    rw [h] at e; cases e
/-- a new tuple -/
theorem Rep.newT (R : Rel K F H r st) {a : Addr} (h : H a = none) (q : Reps K F H r vs ps) : Rep K F (upd H a (.tup vs)) r (.ref a) (.tup ps) :=
  .tup (.inl (.inl upd_same)) (Reps.aft R (Aft.new h) q)
/-- a new list that nobody will write -/
theorem Rep.newF (R : Rel K F H r st) {a : Addr} (h : H a = none) (q : Reps K F H r vs ps) : Rep K F (upd H a (.lst vs)) r (.ref a) (.lsv ps) :=
  .lsv (.inl ⟨upd_same, (R.fresh h).1, (R.fresh h).2⟩) (Reps.aft R (Aft.new h) q)
/-- a new list to be written -/
theorem Aft.newL {a : Addr} {o : HO} (h : H a = none) : Aft r H (r ++ [a]) (upd H a o) := ⟨⟨[a], rfl⟩, fun b u e n => by
  have ne := ne_of_none e h
  exact ⟨by rw [upd_ne ne]; exact e, by simp [n, ne]⟩⟩
theorem Rel.newL (R : Rel K F H r st) {a : Addr} (h : H a = none) (q : Reps K F H r vs ps) : Rel K F (upd H a (.lst vs)) (r ++ [a]) (st ++ [ps]) := by
  obtain ⟨n1, n2⟩ := R.fresh h
  have A : Aft r H (r ++ [a]) (upd H a (.lst vs)) := Aft.newL h
  refine ⟨by simp [R.len], ?_, fun i b xs e1 e2 => ?_, fun b hb => ?_, fun b hb => ?_⟩
  · rw [List.nodup_append]
    refine ⟨R.nd, by simp, fun x hx y hy => ?_⟩
    rw [List.mem_singleton] at hy
    rintro rfl
    exact n1 (hy ▸ hx)
  · by_cases hi : i < r.length
    · rw [List.getElem?_append_left hi] at e1
      rw [List.getElem?_append_left (by rw [← R.len]; exact hi)] at e2
      obtain ⟨ws, q1, q2⟩ := R.cells i b xs e1 e2
      exact ⟨ws, by rw [upd_ne (ne_of_none q1 h)]; exact q1, Reps.aft R A q2⟩
    · have hl := R.len
      rw [List.getElem?_append_right (by omega)] at e1
      rw [List.getElem?_append_right (by omega)] at e2
      have hz : i - r.length = 0 := by
        have := (List.getElem?_eq_some_iff.mp e1).1
        simp at this; omega
      rw [hz] at e1
      rw [← hl, hz] at e2
      simp at e1 e2
      subst e1; subst e2
      exact ⟨vs, upd_same, Reps.aft R A q⟩
  · rcases List.mem_append.mp hb with hb | hb
    · exact R.apart b hb
    · rw [List.mem_singleton] at hb; subst hb; exact n2
  · obtain ⟨ws, e⟩ := R.fs b hb
    exact ⟨ws, by rw [upd_ne (ne_of_none e h)]; exact e⟩
/-- a list of ours written -/
theorem Aft.write {a : Addr} {o : HO} (h : a ∈ r) : Aft r H r (upd H a o) := ⟨⟨[], by simp⟩, fun b u e n => ⟨by
  rw [upd_ne (by rintro rfl; exact n h)]; exact e, n⟩⟩
theorem Rel.write (R : Rel K F H r st) {a : Addr} {i : Nat} (e : r[i]? = some a) (q : Reps K F H r vs ps) : Rel K F (upd H a (.lst vs)) r (st.set i ps) := by
  have ha : a ∈ r := List.mem_of_getElem? e
  have A : Aft r H r (upd H a (.lst vs)) := Aft.write ha
  refine ⟨by simp [R.len], R.nd, fun j b xs e1 e2 => ?_, R.apart, fun b hb => ?_⟩
  · by_cases hj : j = i
    · subst hj
      rw [e] at e1; cases e1
      have hl : j < st.length := by rw [← R.len]; exact (List.getElem?_eq_some_iff.mp e).1
      rw [List.getElem?_set_self hl] at e2
      cases e2
      exact ⟨vs, upd_same, Reps.aft R A q⟩
    · rw [List.getElem?_set_ne (Ne.symm hj)] at e2
      obtain ⟨ws, q1, q2⟩ := R.cells j b xs e1 e2
      have hb : b ≠ a := by
        rintro rfl
        exact hj (nd_ix R.nd e1 e)
      exact ⟨ws, by rw [upd_ne hb]; exact q1, Reps.aft R A q2⟩
  · obtain ⟨ws, e2⟩ := R.fs b hb
    have hb : b ≠ a := by
      rintro rfl
      exact R.apart b ha hb
    exact ⟨ws, by rw [upd_ne hb]; exact e2⟩
theorem Rel.cell (R : Rel K F H r st) {i : Nat} {a : Addr} (e : r[i]? = some a) : ∃ xs vs, st[i]? = some xs ∧ H a = some (.lst vs) ∧ Reps K F H r vs xs := by
  have hi : i < st.length := by rw [← R.len]; exact (List.getElem?_eq_some_iff.mp e).1
  obtain ⟨vs, h1, h2⟩ := R.cells i a st[i] e (List.getElem?_eq_getElem hi)
  exact ⟨st[i], vs, List.getElem?_eq_getElem hi, h1, h2⟩

/-! ### lists and tuples that are read -/
theorem Rep.seqL (R : Rel K F H r st) {xs : List PV} (h : Rep K F H r v p) (e : seqL st p = some xs) : ∃ a vs, v = .ref a ∧ SqL K H a vs ∧ Reps K F H r vs xs := by
  cases h with
  | lsv h q => cases e; exact ⟨_, _, rfl, h.seq, q⟩
  | loc h =>
    obtain ⟨ys, vs, e1, e2, e3⟩ := R.cell h
    have e : st[_]? = some xs := e
    rw [e1] at e; cases e
    exact ⟨_, vs, rfl, .of e2, e3⟩
  | _ => cases e
theorem Rep.seqA (R : Rel K F H r st) {xs : List PV} (h : Rep K F H r v p) (e : seqA st p = some xs) : ∃ a vs, v = .ref a ∧ (SqL K H a vs ∨ SqT K H a vs) ∧ Reps K F H r vs xs := by
  cases h with
  | lsv h q => cases e; exact ⟨_, _, rfl, .inl h.seq, q⟩
  | tup h q => cases e; exact ⟨_, _, rfl, .inr h, q⟩
  | loc h =>
    obtain ⟨ys, vs, e1, e2, e3⟩ := R.cell h
    have e : st[_]? = some xs := e
    rw [e1] at e; cases e
    exact ⟨_, vs, rfl, .inl (.of e2), e3⟩
  | _ => cases e
mutual
theorem Rep.dp : ∀ {v : V} {p : PV}, Rep K F H r v p → p.data = true → Dp K H v p.toD
  | _, _, .non, _ => .non
  | _, _, .bl b, _ => .bl b
  | _, _, .int i, _ => .int i
  | _, _, .str x, _ => .str x
  | _, _, .lsv h q, f => .lst h.seq (Reps.dp q (by simpa [PV.data] using f))
  | _, _, .tup h q, f => .tup h (Reps.dp q (by simpa [PV.data] using f))
  | _, _, .loc e, f => by simp [PV.data] at f
  | _, _, .exn .., f => by simp [PV.data] at f
theorem Reps.dp : ∀ {vs : List V} {ps : List PV}, Reps K F H r vs ps → dataAll ps = true → DpAll K H vs (toDs ps)
  | _, _, .nil, _ => .nil
  | _, _, .cons h q, f => by
    simp [dataAll] at f
    exact .cons (Rep.dp h f.1) (Reps.dp q f.2)
end
/-- what is free of lists that are written is the same whichever these are -/
theorem SqF.back {a : Addr} {F2 r2 : List Addr} (hF : ∀ b, b ∈ r2 → (b ∈ r ∨ b ∈ F)) (hF2 : ∀ b, b ∈ F2 → (b ∈ r ∨ b ∈ F)) (h : SqF K F H r a vs) : SqF K F2 H r2 a vs := by
  rcases h with ⟨h, n1, n2⟩ | h | h
  · refine .inl ⟨h, fun m => ?_, fun m => ?_⟩
    · rcases hF a m with z | z
      · exact n1 z
      · exact n2 z
    · rcases hF2 a m with z | z
      · exact n1 z
      · exact n2 z
  · exact .inr (.inl h)
  · exact .inr (.inr h)
mutual
theorem Rep.back {F2 r2 : List Addr} (hF : ∀ b, b ∈ r2 → (b ∈ r ∨ b ∈ F)) (hF2 : ∀ b, b ∈ F2 → (b ∈ r ∨ b ∈ F)) : ∀ {v : V} {p : PV}, Rep K F H r v p → p.free = true → Rep K F2 H r2 v p
  | _, _, .non, _ => .non
  | _, _, .bl b, _ => .bl b
  | _, _, .int i, _ => .int i
  | _, _, .str x, _ => .str x
  | _, _, .lsv h q, f => .lsv (h.back hF hF2) (Reps.back hF hF2 q (by simpa [PV.free] using f))
  | _, _, .tup h q, f => .tup h (Reps.back hF hF2 q (by simpa [PV.free] using f))
  | _, _, .loc e, f => by simp [PV.free] at f
  | _, _, .exn h1 h2 q, f => .exn h1 h2 (Rep.back hF hF2 q (by simpa [PV.free] using f))
theorem Reps.back {F2 r2 : List Addr} (hF : ∀ b, b ∈ r2 → (b ∈ r ∨ b ∈ F)) (hF2 : ∀ b, b ∈ F2 → (b ∈ r ∨ b ∈ F)) : ∀ {vs : List V} {ps : List PV}, Reps K F H r vs ps → freeAll ps = true → Reps K F2 H r2 vs ps
  | _, _, .nil, _ => .nil
  | _, _, .cons h q, f => by
    simp [freeAll] at f
    exact .cons (Rep.back hF hF2 h f.1) (Reps.back hF hF2 q f.2)
end
end

/-! ### environments -/
structure EnvRel (K : PySem.W.Frag) (F : List Addr) (H : Hp) (r : List Addr) (env : Env) (σ : St) : Prop where
  len : env.length = σ.length
  get : ∀ (i : Nat) (p : PV), env[i]? = some (some p) → ∃ v : V, σ[i]? = some (some v) ∧ Rep K F H r v p
section
variable {K : PySem.W.Frag} {F : List Addr} {H H' : Hp} {r r' : List Addr} {st : Store} {v : V} {p : PV} {env : Env} {σ : St}
theorem EnvRel.aft (R : Rel K F H r st) (A : Aft r H r' H') (e : EnvRel K F H r env σ) : EnvRel K F H' r' env σ :=
  ⟨e.len, fun i p h => let ⟨v, h1, h2⟩ := e.get i p h; ⟨v, h1, h2.aft R A⟩⟩
theorem EnvRel.set (e : EnvRel K F H r env σ) (i : Nat) (h : Rep K F H r v p) : EnvRel K F H r (env.set i (some p)) (σ.set i (some v)) := by
  refine ⟨by simp [e.len], fun j q hq => ?_⟩
  by_cases hj : j = i
  · subst hj
    have hl : j < env.length := by
      have := (List.getElem?_eq_some_iff.mp hq).1
      simpa using this
    rw [List.getElem?_set_self hl] at hq
    cases hq
    exact ⟨v, List.getElem?_set_self (by rw [← e.len]; exact hl), h⟩
  · rw [List.getElem?_set_ne (Ne.symm hj)] at hq
    rw [List.getElem?_set_ne (Ne.symm hj)]
    exact e.get j q hq
theorem EnvRel.unset (e : EnvRel K F H r env σ) (i : Nat) : EnvRel K F H r (env.set i none) (σ.set i none) := by
  refine ⟨by simp [e.len], fun j q hq => ?_⟩
  by_cases hj : j = i
  · subst hj
    have hl : j < env.length := by
      have := (List.getElem?_eq_some_iff.mp hq).1
      simpa using this
    rw [List.getElem?_set_self hl] at hq
    cases hq
  · rw [List.getElem?_set_ne (Ne.symm hj)] at hq
    rw [List.getElem?_set_ne (Ne.symm hj)]
    exact e.get j q hq
theorem EnvRel.wipe (e : EnvRel K F H r env σ) : ∀ vs : List Nat, EnvRel K F H r (wipeE env vs) (wipe σ vs)
  | [] => e
  | v :: vs => (e.wipe vs).unset v
end

/-! ### readings -/
/-- a wish about errors: the class, the value, the heap -/
abbrev EW := Str → V → Hp → Prop
/-- .. with the names as they are -/
abbrev SW := St → EW
/-- what is wanted of an error, reckoned from a state -/
def PostX (K : PySem.W.Frag) (F : List Addr) (B : EW) (r : List Addr) (H : Hp) (c : Str) (p : PV) (st' : Store) : Prop := ∀ v H' r', Aft r H r' H' → Rel K F H' r' st' → Rep K F H' r' v p → B c v H'
theorem PostX.aft {K : PySem.W.Frag} {F : List Addr} {B : EW} {H H' : Hp} {r r' : List Addr} {c : Str} {p : PV} {st' : Store} (h : PostX K F B r H c p st') (A : Aft r H r' H') : PostX K F B r' H' c p st' := fun v H2 r2 A2 => h v H2 r2 (A.trans A2)
/-- what is wanted of an outcome, reckoned from a state -/
def Post (K : PySem.W.Frag) (F : List Addr) (B : EW) (r : List Addr) (H : Hp) (Q : VK) : Out PV → Prop
  | .ok p st' => ∀ v H' r', Aft r H r' H' → Rel K F H' r' st' → Rep K F H' r' v p → Q v H'
  | .exc c p st' => PostX K F B r H c p st'
  | .bad => False
theorem Post.aft {K : PySem.W.Frag} {F : List Addr} {B : EW} {H H' : Hp} {r r' : List Addr} {Q : VK} {o : Out PV} (h : Post K F B r H Q o) (A : Aft r H r' H') : Post K F B r' H' Q o := by
  cases o with
  | ok p st' => exact fun v H2 r2 A2 => h v H2 r2 (A.trans A2)
  | exc => exact PostX.aft h A
  | bad => exact h.elim
def PostT (K : PySem.W.Frag) (F : List Addr) (B : EW) (r : List Addr) (H : Hp) (Q : Bool → Hp → Prop) : Out Bool → Prop
  | .ok b st' => ∀ H' r', Aft r H r' H' → Rel K F H' r' st' → Q b H'
  | .exc c p st' => PostX K F B r H c p st'
  | .bad => False
def PostA (K : PySem.W.Frag) (F : List Addr) (B : EW) (r : List Addr) (H : Hp) (Q : List V → Hp → Prop) : Out (List PV) → Prop
  | .ok ps st' => ∀ vs H' r', Aft r H r' H' → Rel K F H' r' st' → Reps K F H' r' vs ps → Q vs H'
  | .exc c p st' => PostX K F B r H c p st'
  | .bad => False
def tI (K : PySem.W.Frag) (F : List Addr) (W : SW) (o : Env → Store → Out PV) : TE := fun σ H Q => ∃ r env st, Rel K F H r st ∧ EnvRel K F H r env σ ∧ Post K F (W σ) r H Q (o env st)
def tIT (K : PySem.W.Frag) (F : List Addr) (W : SW) (o : Env → Store → Out Bool) : TT := fun σ H Q => ∃ r env st, Rel K F H r st ∧ EnvRel K F H r env σ ∧ PostT K F (W σ) r H Q (o env st)
def tIA (K : PySem.W.Frag) (F : List Addr) (W : SW) (o : Env → Store → Out (List PV)) : TA := fun σ H Q => ∃ r env st, Rel K F H r st ∧ EnvRel K F H r env σ ∧ PostA K F (W σ) r H Q (o env st)
def PostS (K : PySem.W.Frag) (F : List Addr) (W : SW) (r : List Addr) (H : Hp) (D : Ends) : Out Fl → Prop
  | .ok (.nx e) st' => ∀ σ' H' r', Aft r H r' H' → Rel K F H' r' st' → EnvRel K F H' r' e σ' → D.nx σ' H'
  | .ok (.bk e) st' => ∀ σ' H' r', Aft r H r' H' → Rel K F H' r' st' → EnvRel K F H' r' e σ' → D.bk σ' H'
  | .ok (.ct e) st' => ∀ σ' H' r', Aft r H r' H' → Rel K F H' r' st' → EnvRel K F H' r' e σ' → D.ct σ' H'
  | .ok (.rt p) st' => ∀ v H' r', Aft r H r' H' → Rel K F H' r' st' → Rep K F H' r' v p → D.rt v H'
  | .ok (.rz c p e) st' => ∀ σ' v H' r', Aft r H r' H' → Rel K F H' r' st' → EnvRel K F H' r' e σ' → Rep K F H' r' v p → W σ' c v H'
  | .exc .. => False
  | .bad => False
theorem PostS.aft {K : PySem.W.Frag} {F : List Addr} {W : SW} {H H' : Hp} {r r' : List Addr} {D : Ends} {o : Out Fl} (h : PostS K F W r H D o) (A : Aft r H r' H') : PostS K F W r' H' D o := by
  cases o with
  | ok p st' =>
    cases p with
    | rz c p e => exact fun σ v H2 r2 A2 => h σ v H2 r2 (A.trans A2)
    | _ => exact fun v H2 r2 A2 => h v H2 r2 (A.trans A2)
  | exc => exact h.elim
  | bad => exact h.elim
def tIS (K : PySem.W.Frag) (F : List Addr) (W : SW) (o : Env → Store → Out Fl) : TS := fun D σ H => ∃ r env st, Rel K F H r st ∧ EnvRel K F H r env σ ∧ PostS K F W r H D (o env st)

theorem PE.imp {X : Cx} {e : Expr} {t t' : TE} (h : PE X e t) (i : ∀ σ H Q, t' σ H Q → t σ H Q) : PE X e t' := ⟨fun pins s σ H Q I q => h.run pins s σ H Q I (i _ _ _ q)⟩
theorem PT.imp {X : Cx} {e : Expr} {t t' : TT} (h : PT X e t) (i : ∀ σ H Q, t' σ H Q → t σ H Q) : PT X e t' := ⟨fun pins s σ H Q I q => h.run pins s σ H Q I (i _ _ _ q)⟩
theorem PA.imp {X : Cx} {e : List Expr} {t t' : TA} (h : PA X e t) (i : ∀ σ H Q, t' σ H Q → t σ H Q) : PA X e t' := ⟨fun pos pins s σ H Q I q => h.run pos pins s σ H Q I (i _ _ _ q)⟩
theorem PS.imp {X : Cx} {e : Stmt} {t t' : TS} (h : PS X e t) (i : ∀ D σ H, t' D σ H → t D σ H) : PS X e t' := ⟨fun pins s σ H D I q => h.run pins s σ H D I (i _ _ _ q)⟩
theorem PSs.imp {X : Cx} {e : List Stmt} {t t' : TS} (h : PSs X e t) (i : ∀ D σ H, t' D σ H → t D σ H) : PSs X e t' := ⟨fun pins s σ H D I q => h.run pins s σ H D I (i _ _ _ q)⟩

/-- a step behind another: from the whole's wish to the first part's, with what is left of the wish -/
theorem tI.step {K : PySem.W.Frag} {F : List Addr} {W : SW} {σ : St} {H : Hp} {Q : VK} {o : Env → Store → Out PV} {f : PV → Env → Store → Out PV}
    (h : tI K F W (fun env st => (o env st).bind fun x st1 => f x env st1) σ H Q) :
    tI K F W o σ H fun v H1 => ∃ r env st p, Rel K F H1 r st ∧ EnvRel K F H1 r env σ ∧ Rep K F H1 r v p ∧ Post K F (W σ) r H1 Q (f p env st) := by
  obtain ⟨r, env, st, R, E, q⟩ := h
  refine ⟨r, env, st, R, E, ?_⟩
  dsimp only at q
  cases e : o env st with
  | ok p st1 =>
    rw [e] at q
    exact fun v H1 r1 A R1 r2 => ⟨r1, env, st1, p, R1, E.aft R A, r2, q.aft A⟩
  | exc => rw [e] at q; exact q
  | bad => rw [e] at q; exact q.elim
theorem tIA.step {K : PySem.W.Frag} {F : List Addr} {W : SW} {σ : St} {H : Hp} {Q : VK} {o : Env → Store → Out (List PV)} {f : List PV → Env → Store → Out PV}
    (h : tI K F W (fun env st => (o env st).bind fun x st1 => f x env st1) σ H Q) :
    tIA K F W o σ H fun vs H1 => ∃ r env st ps, Rel K F H1 r st ∧ EnvRel K F H1 r env σ ∧ Reps K F H1 r vs ps ∧ Post K F (W σ) r H1 Q (f ps env st) := by
  obtain ⟨r, env, st, R, E, q⟩ := h
  refine ⟨r, env, st, R, E, ?_⟩
  dsimp only at q
  cases e : o env st with
  | ok p st1 =>
    rw [e] at q
    exact fun v H1 r1 A R1 r2 => ⟨r1, env, st1, p, R1, E.aft R A, r2, q.aft A⟩
  | exc => rw [e] at q; exact q
  | bad => rw [e] at q; exact q.elim
/-- an expression within a statement -/
theorem tIS.step {K : PySem.W.Frag} {F : List Addr} {W : SW} {σ : St} {H : Hp} {D : Ends} {o : Env → Store → Out PV} {f : PV → Env → Store → Out Fl}
    (h : tIS K F W (fun env st => (o env st).lift env fun x st1 => f x env st1) D σ H) :
    tI K F W o σ H fun v H1 => ∃ r env st p, Rel K F H1 r st ∧ EnvRel K F H1 r env σ ∧ Rep K F H1 r v p ∧ PostS K F W r H1 D (f p env st) := by
  obtain ⟨r, env, st, R, E, q⟩ := h
  refine ⟨r, env, st, R, E, ?_⟩
  dsimp only at q
  cases e : o env st with
  | ok p st1 =>
    rw [e] at q
    exact fun v H1 r1 A R1 r2 => ⟨r1, env, st1, p, R1, E.aft R A, r2, q.aft A⟩
  | exc => rw [e] at q; exact fun v H1 r1 A R1 r2 => q σ v H1 r1 A R1 (E.aft R A) r2
  | bad => rw [e] at q; exact q.elim
end L2.Iv

/-! IvC: single operations do what the language says. Own work. -/
namespace L2.Iv
open PySem PySem.Spec PyProof.Rows

/-- where one stands: room for n calls, no repr is running, no except suite -/
structure Cal (X : Cx) (n : Nat) (hot : Bool) : Prop where
  dp : X.A.depth + 3 * n + 5 < recursionLimit
  un : X.A.units + 16 * n + 200 < cLine
  gd : X.A.guards = some []
  hd : hot = false → X.A.handled = none
  calm : hot = false → X.calm = true
theorem Cal.room {X : Cx} {n : Nat} {hot : Bool} (C : Cal X n hot) (h : hot = false) : Room n X.A := ⟨C.hd h, C.dp, C.un⟩
theorem Cal.units {X : Cx} {n : Nat} {hot : Bool} (C : Cal X n hot) : X.A.units + 64 < cLine := by have := C.un; omega

section
variable {K : PySem.W.Frag} {F : List Addr} {H : Hp} {r : List Addr} {st : Store} {Q : VK} {v : V} {p : PV}
theorem Post.here {B : EW} (R : Rel K F H r st) (h : Post K F B r H Q (.ok p st)) (e : Rep K F H r v p) : Q v H := h v H r .refl R e
theorem Post.tup {B : EW} {ps : List PV} {vs : List V} (R : Rel K F H r st) (h : Post K F B r H Q (.ok (.tup ps) st)) (e : Reps K F H r vs ps) : ∀ a, H a = none → Q (.ref a) (upd H a (.tup vs)) :=
  fun a ha => h _ _ r (.new ha) (R.new ha) (.newT R ha e)
theorem Post.lst {B : EW} {fr : Bool} {ps : List PV} {vs : List V} (R : Rel K F H r st) (h : Post K F B r H Q (newL fr ps st)) (e : Reps K F H r vs ps) : ∀ a, H a = none → Q (.ref a) (upd H a (.lst vs)) := by
  intro a ha
  cases fr with
  | true => exact h _ _ r (.new ha) (R.new ha) (.newF R ha e)
  | false =>
    refine h _ _ (r ++ [a]) (.newL ha) (R.newL ha e) (.loc ?_)
    rw [← R.len]
    simp
theorem reps_ints : ∀ {vs : List V} {ps : List PV} {ns : List Int}, Reps K F H r vs ps → intsOf ps = some ns → vs = ns.map V.int
  | _, _, _, .nil, e => by cases e; rfl
  | _, _, ns, .cons h q, e => by
    cases h with
    | int i =>
      simp only [intsOf, Option.map_eq_some_iff] at e
      obtain ⟨ms, e1, rfl⟩ := e
      rw [reps_ints q e1]; rfl
    | _ => simp [intsOf] at e
theorem reps_bls : ∀ {vs : List V} {ps : List PV} {ns : List Bool}, Reps K F H r vs ps → blsOf ps = some ns → vs = ns.map V.bl
  | _, _, _, .nil, e => by cases e; rfl
  | _, _, ns, .cons h q, e => by
    cases h with
    | bl i =>
      simp only [blsOf, Option.map_eq_some_iff] at e
      obtain ⟨ms, e1, rfl⟩ := e
      rw [reps_bls q e1]; rfl
    | _ => simp [blsOf] at e
theorem rep_flat (h : Rep K F H r v p) (f : flatP p = true) : v = toV p ∧ flatV v = true := by
  cases h <;> first | exact ⟨rfl, rfl⟩ | cases f
theorem reps_flat : ∀ {vs : List V} {ps : List PV}, Reps K F H r vs ps → ps.all flatP = true → vs = ps.map toV ∧ vs.all flatV = true
  | _, _, .nil, _ => ⟨rfl, rfl⟩
  | _, _, .cons h q, f => by
    simp only [List.all_cons, Bool.and_eq_true] at f ⊢
    obtain ⟨e1, f1⟩ := rep_flat h f.1
    obtain ⟨e2, f2⟩ := reps_flat q f.2
    exact ⟨by rw [List.map_cons, ← e1, ← e2], f1, f2⟩
theorem inV_eq (x : PV) : ∀ xs : List PV, L2.inV (toV x) (xs.map toV) = inP x xs
  | [] => rfl
  | y :: ys => by
    have := inV_eq x ys
    simp only [L2.inV, inP, List.map_cons, List.any_cons] at this ⊢
    rw [this]
end

section
variable {X : Cx} {F : List Addr}
/-- list + list, whatever the lists are -/
theorem op_catS : OpR X (binaryOp .Add) (fun x y H Q => ∃ l b xs zs, x = .ref l ∧ y = .ref b ∧ SqL X.K H l xs ∧ SqL X.K H b zs ∧ xs.length + zs.length ≤ sizeLine ∧ ∀ p, H p = none → Q (.ref p) (upd H p (.lst (xs ++ zs)))) := by
  intro pins s σ H x y v u Q I rx ry h
  obtain ⟨l, b, xs, zs, rfl, rfl, h1, h2, hz, q⟩ := h
  cases rx; cases ry
  obtain ⟨us, r1, ⟨⟨c1, d1, t1, s1⟩, n1, g1, rfl, rfl, rfl⟩, _⟩ := I.list h1
  obtain ⟨ws, r2, ⟨⟨c2, d2, t2, s2⟩, n2, g2, rfl, rfl, rfl⟩, _⟩ := I.list h2
  have l1 := r1.length
  have l2 := r2.length
  refine concat_meets ⟨_, g1, rfl⟩ ⟨_, g2, rfl⟩ noFill_list_add seq_list_add PySem.F.slot_list_add PySem.F.entry_list_add
    (PySem.F.args_list_add_2 _ _) (list_addW l b us.toArray ws.toArray n1 n2 none none s1 s2 (by simp; omega)) ⟨g1, g2, ?_⟩
  have e : us.toArray ++ ws.toArray = (us ++ ws).toArray := by simp
  rw [e]
  exact ⟨.ref _, _, I.lnew (t' := s.toks) (r1.append r2) (by rw [List.length_append]; omega), rfl, q _ I.fresh⟩
/-- list * int, whatever the list is -/
theorem op_repS : OpR X (binaryOp .Mult) (fun x y H Q => ∃ l k xs, x = .ref l ∧ y = .int k ∧ SqL X.K H l xs ∧ -(2 ^ 63) ≤ k ∧ k < 2 ^ 63 ∧ xs.length * k.toNat ≤ sizeLine ∧
    ∀ p, H p = none → Q (.ref p) (upd H p (.lst (List.replicate k.toNat xs).flatten))) := by
  intro pins s σ H x y v u Q I rx ry h
  obtain ⟨l, k, xs, rfl, rfl, h1, hlo, hhi, hz, q⟩ := h
  cases rx
  obtain ⟨t, rfl⟩ := ry
  obtain ⟨us, r1, ⟨⟨c1, d1, t1, s1⟩, n1, g1, rfl, rfl, rfl⟩, _⟩ := I.list h1
  have l1 := r1.length
  have hz' : us.toArray.size * k.toNat ≤ 2 ^ 24 := by
    rw [List.size_toArray, ← l1]
    exact hz
  refine wpAny_binaryOp_repeat_ref (T := "list") (U := "int") (by decide) ⟨_, g1, rfl⟩ (fun s' => typeIs_int s' k t)
    noFill_list_mul F.fills_int_mul F.slot_int_rmul repeat_list F.slot_int_index.lookup ?_
  refine call_meets F.slot_int_rmul (typeIs_int s k t) F.entry_int_rmul (F.args_int_rmul_2 _ _)
    (lm_int_rmul_list_any k t l us.toArray n1 none s1) ⟨g1, rfl, ⟨_, g1, rfl⟩, ?_⟩
  refine call_meets F.slot_list_mul ⟨_, g1, rfl⟩ F.entry_list_mul (F.args_list_mul_2 _ _)
    (lm_list_mul_any l us.toArray n1 none s1 k t (by simp [Builtin.List.listFitsIndex]; omega) (by omega)
      (by simp [Builtin.List.listTooLong, sizeLine]; simp at hz'; omega)) ⟨g1, ?_⟩
  have e : List.foldl (fun x1 x2 => x1 ++ x2) #[] (List.replicate (if us.toArray.isEmpty = true then 0 else k.toNat) us.toArray) = (List.replicate k.toNat us).flatten.toArray := by
    rw [listMul_foldl_if]
  rw [e]
  exact ⟨.ref _, _, I.lnew (t' := s.toks) (r1.rep k.toNat) (by rw [PyProof.Rows.lm_len_rep_flat, Nat.mul_comm]; exact hz), rfl, q _ I.fresh⟩

theorem opr_imp {f : Value → Value → Sem Value} {r r' : R2} (h : OpR X f r) (i : ∀ x y H Q, r' x y H Q → r x y H Q) : OpR X f r' :=
  fun pins s σ H x y v u Q I rx ry q => h pins s σ H x y v u Q I rx ry (i _ _ _ _ q)
def opB : Bop → Operator
  | .add => .Add | .sub => .Sub | .mul => .Mult | .fdiv => .FloorDiv | .mod => .Mod | .pow => .Pow | .shl => .LShift | .shr => .RShift | .band => .BitAnd | .bor => .BitOr
/-- two values that the state bears, and what is wanted of an outcome -/
def rB (K : PySem.W.Frag) (F : List Addr) (o : Store → PV → PV → Out PV) : R2 := fun x y H Q => ∃ B r st p q, Rel K F H r st ∧ Rep K F H r x p ∧ Rep K F H r y q ∧ Post K F B r H Q (o st p q)

theorem op_addI (fr : Bool) : OpR X (binaryOp .Add) (rB X.K F (addV fr)) := by
  intro pins s σ H x y v u Q I rx ry h
  obtain ⟨B, r, st, p, q, R, hp, hq, h⟩ := h
  have gen : addV fr st p q = addL fr st p q → wpAny (model X.prog X.w) X.A (binaryOp .Add v u) (EP X pins σ Q) X.xe s := by
    intro e
    rw [e] at h
    unfold addL at h
    split at h
    · rename_i xs ys e1 e2
      split at h
      · rename_i hz
        obtain ⟨a, vs, rfl, s1, q1⟩ := hp.seqL R e1
        obtain ⟨b, ws, rfl, s2, q2⟩ := hq.seqL R e2
        exact op_catS pins s σ H _ _ v u Q I rx ry ⟨a, b, vs, ws, rfl, rfl, s1, s2, by rw [q1.length, q2.length]; exact hz, h.lst R (q1.append q2)⟩
      · exact h.elim
    · exact h.elim
  cases hp with
  | int i =>
    cases hq with
    | int j => exact op_add pins s σ H _ _ v u Q I rx ry ⟨i, j, rfl, rfl, h.here R (.int _)⟩
    | _ => exact gen rfl
  | str i =>
    cases hq with
    | str j =>
      simp only [addV] at h
      split at h
      · exact op_add_str pins s σ H _ _ v u Q I rx ry ⟨i, j, rfl, rfl, by assumption, h.here R (.str _)⟩
      · exact h.elim
    | _ => exact gen rfl
  | @tup a1 vs1 xs h1 q1 =>
    cases hq with
    | @tup a2 vs2 ys h2 q2 =>
      simp only [addV] at h
      split at h
      · rename_i hz
        refine op_catA pins s σ H _ _ v u Q I rx ry ⟨_, _, _, _, rfl, rfl, h1, h2, by rw [q1.length, q2.length]; exact hz, ?_⟩
        refine ⟨fun e => ?_, fun e1 e2 => ?_, fun e1 e2 => h.tup R (q1.append q2)⟩
        · subst e
          have : xs = [] := by cases q1; rfl
          subst this
          exact h.here R (.tup h2 q2)
        · subst e2
          have : ys = [] := by cases q2; rfl
          subst this
          exact h.here R (.tup h1 (by rw [List.append_nil]; exact q1))
      · exact h.elim
    | _ => exact gen rfl
  | _ => exact gen rfl

theorem op_mulI (fr : Bool) : OpR X (binaryOp .Mult) (rB X.K F (mulV fr)) := by
  intro pins s σ H x y v u Q I rx ry h
  obtain ⟨B, r, st, p, q, R, hp, hq, h⟩ := h
  have gen : ∀ k, q = .int k → mulV fr st p q = mulL fr st p k → wpAny (model X.prog X.w) X.A (binaryOp .Mult v u) (EP X pins σ Q) X.xe s := by
    intro k eq e
    subst eq
    rw [e] at h
    unfold mulL at h
    split at h
    · rename_i xs e1
      split at h
      · rename_i hz
        obtain ⟨a, vs, rfl, s1, q1⟩ := hp.seqL R e1
        cases hq
        exact op_repS pins s σ H _ _ v u Q I rx ry ⟨a, k, vs, rfl, rfl, s1, hz.1, hz.2.1, by rw [q1.length]; exact hz.2.2, h.lst R (q1.rep _)⟩
      · exact h.elim
    · exact h.elim
  cases hq with
  | int k =>
    cases hp with
    | int i =>
      simp only [mulV] at h
      split at h
      · exact op_mulW pins s σ H _ _ v u Q I rx ry ⟨i, k, rfl, rfl, by assumption, h.here R (.int _)⟩
      · exact h.elim
    | @tup a1 vs1 xs h1 q1 =>
      simp only [mulV] at h
      split at h
      · rename_i hz
        refine op_repT pins s σ H _ _ v u Q I rx ry ⟨a1, k, vs1, rfl, rfl, h1, ?_, hz.2.1, hz.2.2.1, by rw [q1.length]; exact hz.2.2.2, h.tup R (q1.rep _)⟩
        intro e
        subst e
        cases q1
        exact hz.1 rfl
      · exact h.elim
    | _ => exact gen k rfl rfl
  | _ => cases hp <;> exact h.elim
theorem rI_of {f : Value → Value → Sem Value} {C : Int → Int → Prop} {g : Int → Int → V} {o : Store → PV → PV → Out PV} (h : OpR X f (rI C g))
    (ho : ∀ st p q, (∃ i j, p = .int i ∧ q = .int j ∧ C i j ∧ ∃ k, g i j = .int k ∧ o st p q = .ok (.int k) st) ∨ o st p q = .bad) : OpR X f (rB X.K F o) := opr_imp h fun x y H Q h => by
  obtain ⟨B, r, st, p, q, R, hp, hq, h⟩ := h
  rcases ho st p q with ⟨i, j, rfl, rfl, hc, k, e1, e2⟩ | e
  · cases hp; cases hq
    rw [e2] at h
    exact ⟨i, j, rfl, rfl, hc, by rw [e1]; exact h.here R (.int _)⟩
  · rw [e] at h; exact h.elim
theorem op_bin (o : Bop) (fr : Bool) : OpR X (binaryOp (opB o)) (rB X.K F (binV o fr)) := by
  cases o with
  | add => exact op_addI fr
  | mul => exact op_mulI fr
  | sub =>
    exact rI_of (C := fun _ _ => True) (opr_imp op_sub fun x y H Q ⟨i, j, a, b, _, q⟩ => ⟨i, j, a, b, q⟩) fun st p q => by
      cases p <;> cases q <;> first | exact .inr rfl | exact .inl ⟨_, _, rfl, rfl, trivial, _, rfl, rfl⟩
  | fdiv =>
    exact rI_of op_fdivW fun st p q => by
      cases p <;> cases q <;> first | exact .inr rfl | (simp only [binV]; split; exact .inl ⟨_, _, rfl, rfl, by assumption, _, rfl, rfl⟩; exact .inr rfl)
  | mod =>
    exact rI_of op_mod fun st p q => by
      cases p <;> cases q <;> first | exact .inr rfl | (simp only [binV]; split; exact .inl ⟨_, _, rfl, rfl, by assumption, _, rfl, rfl⟩; exact .inr rfl)
  | pow =>
    exact rI_of op_pow fun st p q => by
      cases p <;> cases q <;> first | exact .inr rfl | (simp only [binV]; split; exact .inl ⟨_, _, rfl, rfl, by assumption, _, rfl, rfl⟩; exact .inr rfl)
  | shl =>
    exact rI_of op_shl fun st p q => by
      cases p <;> cases q <;> first | exact .inr rfl | (simp only [binV]; split; exact .inl ⟨_, _, rfl, rfl, by assumption, _, rfl, rfl⟩; exact .inr rfl)
  | shr =>
    exact rI_of op_shr fun st p q => by
      cases p <;> cases q <;> first | exact .inr rfl | (simp only [binV]; split; exact .inl ⟨_, _, rfl, rfl, by assumption, _, rfl, rfl⟩; exact .inr rfl)
  | band =>
    exact rI_of (C := fun _ _ => True) (opr_imp op_and fun x y H Q ⟨i, j, a, b, _, q⟩ => ⟨i, j, a, b, q⟩) fun st p q => by
      cases p <;> cases q <;> first | exact .inr rfl | exact .inl ⟨_, _, rfl, rfl, trivial, _, rfl, rfl⟩
  | bor =>
    exact rI_of (C := fun _ _ => True) (opr_imp op_or fun x y H Q ⟨i, j, a, b, _, q⟩ => ⟨i, j, a, b, q⟩) fun st p q => by
      cases p <;> cases q <;> first | exact .inr rfl | exact .inl ⟨_, _, rfl, rfl, trivial, _, rfl, rfl⟩

/-! ### comparisons -/
def opC : Cop → CmpOp
  | .eq => .Eq | .ne => .NotEq | .lt => .Lt | .le => .LtE | .gt => .Gt | .ge => .GtE | .isin => .In | .notin => .NotIn | .is => .Is | .isnot => .IsNot
def rC (K : PySem.W.Frag) (F : List Addr) (o : Cop) : R2 := fun x y H Q => ∃ r st p q b, Rel K F H r st ∧ Rep K F H r x p ∧ Rep K F H r y q ∧ cmpV o st p q = some b ∧ Q (.bl b) H
theorem rC_int {o : Cop} {f : Int → Int → Bool} (h : OpR X (compareOp (opC o)) (rI0 fun i j => .bl (f i j)))
    (ho : ∀ st p q, (∃ i j, p = .int i ∧ q = .int j ∧ cmpV o st p q = some (f i j)) ∨ cmpV o st p q = none) : OpR X (compareOp (opC o)) (rC X.K F o) := opr_imp h fun x y H Q h => by
  obtain ⟨r, st, p, q, b, R, hp, hq, e, h⟩ := h
  rcases ho st p q with ⟨i, j, rfl, rfl, e2⟩ | e2
  · cases hp; cases hq
    rw [e2] at e; cases e
    exact ⟨i, j, rfl, rfl, h⟩
  · rw [e2] at e; cases e
/-- the order of data -/
def rLtD (K : PySem.W.Frag) (g : PyData → PyData → Bool) : R2 := fun x y H Q => ∃ d e, Dp K H x d ∧ Dp K H y e ∧ PySem.W.alike d e = true ∧ (d ≠ .none ∧ e ≠ .none ∧ min d.depth e.depth ≤ 64) ∧ Q (.bl (g d e)) H
theorem op_ltD (hu : X.A.units + 64 < cLine) : OpR X (compareOp .Lt) (rLtD X.K PySem.W.dataLt) := by
  intro pins s σ H x y v u Q I rx ry h
  obtain ⟨d, e, hd, he, ha, ⟨n1, n2, hz⟩, q⟩ := h
  obtain ⟨as, r1⟩ := Dp.reads I d x v hd rx
  obtain ⟨bs, r2⟩ := Dp.reads I e y u he ry
  exact PySem.W.lt_data r1 r2 ha n1 (by omega) ⟨.bl _, H, I, rfl, q⟩
theorem op_gtD (hu : X.A.units + 64 < cLine) : OpR X (compareOp .Gt) (rLtD X.K fun d e => PySem.W.dataLt e d) := by
  intro pins s σ H x y v u Q I rx ry h
  obtain ⟨d, e, hd, he, ha, ⟨n1, n2, hz⟩, q⟩ := h
  obtain ⟨as, r1⟩ := Dp.reads I d x v hd rx
  obtain ⟨bs, r2⟩ := Dp.reads I e y u he ry
  exact PySem.W.gt_data r1 r2 ha n1 (by omega) ⟨.bl _, H, I, rfl, q⟩
theorem op_cmp (n : Nat) {hot : Bool} (C : Cal X n hot) (o : Cop) : OpR X (compareOp (opC o)) (rC X.K F o) := by
  have eqs : ∀ {H : Hp} {r : List Addr} {st : Store} {p q : PV} {b : Bool} {x y : V}, Rep X.K F H r x p → Rep X.K F H r y q → eqvV st p q = some b →
      (∃ d e, Dp X.K H x d ∧ Dp X.K H y e ∧ SeqAt.shaped d = true ∧ SeqAt.shaped e = true ∧ PyData.eqv d e = b) ∨ ∃ i j, x = .str i ∧ y = .str j ∧ (i == j) = b := by
    intro H r st p q b x y hp hq e
    have gen : eqvD p q = some b → (∃ d e, Dp X.K H x d ∧ Dp X.K H y e ∧ SeqAt.shaped d = true ∧ SeqAt.shaped e = true ∧ PyData.eqv d e = b) := by
      intro e
      unfold eqvD at e
      split at e
      · rename_i c
        exact ⟨_, _, hp.dp c.1, hq.dp c.2.1, c.2.2.1, c.2.2.2, Option.some.inj e⟩
      · cases e
    cases hp <;> first
      | exact .inl (gen e)
      | (cases hq <;> first
          | exact .inl (gen e)
          | exact .inr ⟨_, _, rfl, rfl, Option.some.inj e⟩)
  have ords : ∀ {H : Hp} {r : List Addr} {st : Store} {p q : PV} {b : Bool} {x y : V}, Rep X.K F H r x p → Rep X.K F H r y q → cmpV .lt st p q = some b →
      (∃ i j, x = .int i ∧ y = .int j ∧ decide (i < j) = b) ∨ ∃ d e, Dp X.K H x d ∧ Dp X.K H y e ∧ PySem.W.alike d e = true ∧ (d ≠ .none ∧ e ≠ .none ∧ min d.depth e.depth ≤ 64) ∧ PySem.W.dataLt d e = b := by
    intro H r st p q b x y hp hq e
    have gen : ∀ {xs ys : List PV}, Rep X.K F H r x (.tup xs) → Rep X.K F H r y (.tup ys) → ltP (.tup xs) (.tup ys) = some b → ∃ d e, Dp X.K H x d ∧ Dp X.K H y e ∧ PySem.W.alike d e = true ∧ (d ≠ .none ∧ e ≠ .none ∧ min d.depth e.depth ≤ 64) ∧ PySem.W.dataLt d e = b := by
      intro xs ys hp hq e
      unfold ltP at e
      split at e
      · rename_i c
        simp only [alikeP, Bool.and_eq_true, decide_eq_true_eq] at c
        obtain ⟨⟨⟨⟨⟨⟨⟨c1, c2⟩, c3⟩, c4⟩, c5⟩, c6⟩, c7⟩, c8⟩ := c
        exact ⟨_, _, hp.dp c1, hq.dp c2, c4, ⟨fun z => (nomatch z), fun z => (nomatch z), Nat.le_trans (Nat.min_le_left _ _) c7⟩, Option.some.inj e⟩
      · cases e
    cases p <;> first | (cases hp <;> cases e; done) | skip
    · cases q <;> first | (cases hq <;> cases e; done) | skip
      cases hp
      cases hq
      exact .inl ⟨_, _, rfl, rfl, Option.some.inj e⟩
    · cases q <;> first | (cases hq <;> cases e; done) | skip
      exact .inr (gen hp hq e)
  cases o with
  | eq =>
    exact opr_imp (OpR.or (op_eqD C.units) op_eq) fun x y H Q h => by
      obtain ⟨r, st, p, q, b, R, hp, hq, e, h⟩ := h
      rcases eqs (st := st) hp hq e with ⟨d, e, d1, d2, d3, d4, d5⟩ | ⟨i, j, rfl, rfl, d5⟩
      · exact .inl ⟨_, _, d1, d2, d3, d4, by rw [d5]; exact h⟩
      · exact .inr ⟨rfl, by rw [dec_str, d5]; exact h⟩
  | ne =>
    exact opr_imp (OpR.or (op_neD C.units) op_ne) fun x y H Q h => by
      obtain ⟨r, st, p, q, b, R, hp, hq, e, h⟩ := h
      simp only [cmpV, Option.map_eq_some_iff] at e
      obtain ⟨b', e, rfl⟩ := e
      rcases eqs (st := st) hp hq e with ⟨d, e, d1, d2, d3, d4, d5⟩ | ⟨i, j, rfl, rfl, d5⟩
      · exact .inl ⟨_, _, d1, d2, d3, d4, by rw [d5]; exact h⟩
      · exact .inr ⟨rfl, by rw [dec_str, d5]; exact h⟩
  | lt =>
    exact opr_imp (OpR.or op_lt (op_ltD C.units)) fun x y H Q h => by
      obtain ⟨r, st, p, q, b, R, hp, hq, e, h⟩ := h
      rcases ords (st := st) hp hq e with ⟨i, j, rfl, rfl, rfl⟩ | ⟨d, f, d1, d2, d3, d4, rfl⟩
      · exact .inl ⟨i, j, rfl, rfl, h⟩
      · exact .inr ⟨d, f, d1, d2, d3, d4, h⟩
  | le => exact rC_int op_le fun st p q => by cases p <;> cases q <;> first | exact .inr rfl | exact .inl ⟨_, _, rfl, rfl, rfl⟩
  | gt =>
    exact opr_imp (OpR.or op_gt (op_gtD C.units)) fun x y H Q h => by
      obtain ⟨r, st, p, q, b, R, hp, hq, e, h⟩ := h
      rcases ords (st := st) (b := b) hq hp (by cases p <;> cases q <;> exact e) with ⟨i, j, rfl, rfl, rfl⟩ | ⟨d, f, d1, d2, d3, d4, rfl⟩
      · exact .inl ⟨j, i, rfl, rfl, h⟩
      · exact .inr ⟨f, d, d2, d1, by rw [PySem.W.alike_comm]; exact d3, ⟨d4.2.1, d4.1, by rw [Nat.min_comm]; exact d4.2.2⟩, h⟩
  | ge => exact rC_int op_ge fun st p q => by cases p <;> cases q <;> first | exact .inr rfl | exact .inl ⟨_, _, rfl, rfl, rfl⟩
  | isin =>
    exact opr_imp op_in_seq fun x y H Q h => by
      obtain ⟨r, st, p, q, b, R, hp, hq, e, h⟩ := h
      simp only [cmpV] at e
      split at e
      · rename_i xs e1
        split at e
        · rename_i c
          cases e
          obtain ⟨a, vs, rfl, s1, q1⟩ := hq.seqA R e1
          obtain ⟨rfl, f1⟩ := rep_flat hp c.1
          obtain ⟨rfl, f2⟩ := reps_flat q1 c.2
          exact ⟨a, _, rfl, s1, f1, f2, by rw [inV_eq]; exact h⟩
        · cases e
      · cases e
  | notin =>
    exact opr_imp op_notIn_seq fun x y H Q h => by
      obtain ⟨r, st, p, q, b, R, hp, hq, e, h⟩ := h
      simp only [cmpV] at e
      split at e
      · rename_i xs e1
        split at e
        · rename_i c
          cases e
          obtain ⟨a, vs, rfl, s1, q1⟩ := hq.seqA R e1
          obtain ⟨rfl, f1⟩ := rep_flat hp c.1
          obtain ⟨rfl, f2⟩ := reps_flat q1 c.2
          exact ⟨a, _, rfl, s1, f1, f2, by rw [inV_eq]; exact h⟩
        · cases e
      · cases e
  | is =>
    exact opr_imp (OpR.or op_isBl op_isN) fun x y H Q h => by
      obtain ⟨r, st, p, q, b, R, hp, hq, e, h⟩ := h
      cases hq with
      | bl c =>
        cases hp with
        | bl d => cases e; exact .inl ⟨_, _, rfl, rfl, h⟩
        | _ => cases e
      | non =>
        refine .inr ⟨rfl, ?_⟩
        cases hp <;> (cases e; exact h)
      | _ => cases hp <;> cases e
  | isnot =>
    exact opr_imp (OpR.or op_notBl op_notN) fun x y H Q h => by
      obtain ⟨r, st, p, q, b, R, hp, hq, e, h⟩ := h
      cases hq with
      | bl c =>
        cases hp with
        | bl d => cases e; exact .inl ⟨_, _, rfl, rfl, h⟩
        | _ => cases e
      | non =>
        refine .inr ⟨rfl, ?_⟩
        cases hp <;> (cases e; exact h)
      | _ => cases hp <;> cases e

/-! ### subscripts -/
theorem ix_all : IxR X (fun x y H Q => ∃ r st p q z, Rel X.K F H r st ∧ Rep X.K F H r x p ∧ Rep X.K F H r y q ∧ ixV st p q = some z ∧ ∀ v, Rep X.K F H r v z → Q v H) := by
  intro value slice pins s σ H x y v u Q I rx ry h hs
  refine ix_seq value slice pins s σ H x y v u Q I rx ry ?_ hs
  obtain ⟨r, st, p, q, z, R, hp, hq, e, h⟩ := h
  have gen : ∀ k, q = .int k → ((seqA st p).bind fun xs => atI xs k) = some z → rIx X.K x y H Q := by
    intro k eq e0
    subst eq
    cases hq
    rw [Option.bind_eq_some_iff] at e0
    obtain ⟨xs, e1, e2⟩ := e0
    obtain ⟨a, vs, rfl, s1, q1⟩ := hp.seqA R e1
    have e3 : ∃ w, atI vs k = some w ∧ Rep X.K F H r w z := by
      unfold atI at e2 ⊢
      rw [Option.bind_eq_some_iff] at e2
      obtain ⟨j, e3, e4⟩ := e2
      obtain ⟨w, e5, e6⟩ := q1.get2 e4
      exact ⟨w, by rw [q1.length, e3]; exact e5, e6⟩
    obtain ⟨w, e4, e5⟩ := e3
    rcases s1 with s1 | s1
    · exact .inl ⟨a, vs, k, w, rfl, rfl, s1, e4, h w e5⟩
    · exact .inr (.inl ⟨a, vs, k, w, rfl, rfl, s1, e4, h w e5⟩)
  cases hq with
  | int k =>
    cases hp with
    | str i =>
      simp only [ixV] at e
      split at e
      · rw [Option.map_eq_some_iff] at e
        obtain ⟨c, e1, rfl⟩ := e
        exact .inr (.inr ⟨i, k, c, rfl, rfl, by assumption, e1, h _ (.str _)⟩)
      · cases e
    | non => cases e
    | bl => cases e
    | int => cases e
    | _ =>
      refine gen k rfl ?_
      simp only [ixV] at e
      split at e
      · rename_i xs e1
        rw [e1]; exact e
      · cases e
  | _ => cases hp <;> cases e
theorem reps_cut {K : PySem.W.Frag} {H : Hp} {r : List Addr} {vs : List V} {ps : List PV} (h : Reps K F H r vs ps) (lo hi : Option Int) : Reps K F H r (cutV vs lo hi) (cutP ps lo hi) := by
  unfold cutV cutP
  rw [h.length]
  exact (h.drop _).take _
def rSl (K : PySem.W.Frag) (F : List Addr) (fr : Bool) : V → Option Int → Option Int → Hp → VK → Prop := fun x lo hi H Q => ∃ B r st p, Rel K F H r st ∧ Rep K F H r x p ∧ Post K F B r H Q (slV fr st p lo hi)
theorem cut_whole (ps : List PV) (lo hi : Option Int) (h1 : HT.sIx ps.length 0 lo = 0) (h2 : HT.sIx ps.length ps.length hi = ps.length) : cutP ps lo hi = ps := by
  unfold cutP
  rw [h1, h2]
  simp
theorem sl_all (fr : Bool) : SlR X (rSl X.K F fr) := by
  intro pins s σ H x v vl vu lo hi sl Q I rx hs pl pu h
  obtain ⟨B, r, st, p, R, hp, h⟩ := h
  have gen : ∀ xs, seqL st p = some xs → Post X.K F B r H Q (newL fr (cutP xs lo hi) st) → ∃ T id, typeLookup (.type T) "__getitem__" = pure (some (.builtin id)) ∧ s.TypeIs v T ∧ wpAny (model X.prog X.w) X.A (getItem v (.ref sl)) (EP X pins σ Q) X.xe s := by
    intro xs e h
    obtain ⟨a, vs, rfl, s1, q1⟩ := hp.seqL R e
    exact sl_list pins s σ H _ v vl vu lo hi sl Q I rx hs pl pu ⟨a, vs, rfl, s1, h.lst R (reps_cut q1 lo hi)⟩
  cases hp with
  | @tup a vs ps h1 q1 =>
    refine sl_tupA pins s σ H _ v vl vu lo hi sl Q I rx hs pl pu ⟨a, vs, rfl, h1, fun w => ?_, fun _ => h.tup R (reps_cut q1 lo hi)⟩
    refine h.here R ?_
    rw [q1.length] at w
    rw [cut_whole ps lo hi w.1 w.2]
    exact .tup h1 q1
  | @lsv a vs ps h1 q1 => exact gen ps rfl h
  | @loc a i e =>
    simp only [slV] at h
    split at h
    · rename_i xs e1
      exact gen xs e1 h
    · exact h.elim
  | _ => exact h.elim

/-! ### truth, types -/
theorem tru_of {K : PySem.W.Frag} {H : Hp} {r : List Addr} {st : Store} {v : V} {p : PV} {b : Bool} (R : Rel K F H r st) (hp : Rep K F H r v p) (e : truthy st p = some b) : TruV K v H b := by
  cases hp with
  | non => cases e; rfl
  | bl => cases e; rfl
  | int => cases e; rfl
  | str x =>
    simp only [truthy] at e
    split at e
    · cases e; exact ⟨by assumption, rfl⟩
    · cases e
  | @lsv a vs ps h q =>
    cases e
    refine .inl ⟨vs, h.seq, ?_⟩
    cases q <;> rfl
  | @tup a vs ps h q =>
    cases e
    refine .inr (.inl ⟨vs, h, ?_⟩)
    cases q <;> rfl
  | @loc a i h =>
    obtain ⟨xs, vs, e1, e2, q⟩ := R.cell h
    simp only [truthy, e1, Option.map_some] at e
    cases e
    refine .inl ⟨vs, .of e2, ?_⟩
    cases q <;> rfl
  | exn => cases e
theorem ty_of {K : PySem.W.Frag} {H : Hp} {r : List Addr} {st : Store} {v : V} {p : PV} {T : String} (R : Rel K F H r st) (hp : Rep K F H r v p) (e : tyOfP p = some T) : TyX K H v (.type T) := by
  cases hp with
  | non => cases e; exact .base .non
  | bl b => cases e; exact .base (.bl b)
  | int i => cases e; exact .base (.int i)
  | str x => cases e; exact .base (.str x)
  | lsv h q =>
    cases e
    rcases h with ⟨h, _⟩ | ⟨o, h⟩ | ⟨o, its, n, h1, h2, _⟩
    · exact .base (.lst h)
    · exact .base (.frz h)
    · exact .kList h1 h2
  | tup h q =>
    cases e
    rcases h with (h | ⟨o, h⟩) | ⟨o, its, n, h1, h2, _⟩
    · exact .base (.tup h)
    · exact .fTuple h
    · exact .kTuple h1 h2
  | loc h =>
    cases e
    obtain ⟨xs, vs, e1, e2, q⟩ := R.cell h
    exact .base (.lst e2)
  | exn => cases e

/-! ### built-ins -/
theorem callr_imp {f : Value} {r r' : List V → Hp → VK → Prop} (h : CallR X f r) (i : ∀ x H Q, r' x H Q → r x H Q) : CallR X f r' :=
  fun pins s σ H x v Q I rx q => h pins s σ H x v Q I rx (i _ _ _ q)
mutual
theorem nodict {K : PySem.W.Frag} {H : Hp} : ∀ (d : PyData) {v : V}, Dp K H v d → d.hasDict = false
  | .none, _, _ => rfl
  | .bool _, _, _ => rfl
  | .int _, _, _ => rfl
  | .str _, _, _ => rfl
  | .list xs, _, h => by
    cases h with
    | lst _ q => exact nodicts xs q
  | .tuple xs, _, h => by
    cases h with
    | tup _ q => exact nodicts xs q
  | .dict _, _, h => by cases h
theorem nodicts {K : PySem.W.Frag} {H : Hp} : ∀ (ds : List PyData) {vs : List V}, DpAll K H vs ds → PyData.hasDictAll ds = false
  | [], _, _ => rfl
  | d :: ds, _, h => by
    cases h with
    | cons h q => simp only [PyData.hasDictAll, nodict d h, nodicts ds q, Bool.or_false]
end
/-- repr of data -/
theorem call_reprD (n : Nat) {hot : Bool} (C : Cal X n hot) : CallR X (.builtin "repr") (fun xs H Q => ∃ v d, xs = [v] ∧ Dp X.K H v d ∧ d.showable = true ∧ d.shown.length ≤ sizeLine ∧ d.depth ≤ 64 ∧ Q (.str d.shown) H) := by
  intro pins s σ H xs us Q I rv h
  obtain ⟨v, d, rfl, hd, hs, hz, hdep, q⟩ := h
  obtain ⟨u, rfl, ru⟩ := vals1 rv
  obtain ⟨as, rd⟩ := Dp.reads I d v u hd ru
  have nd : d.hasDict = true → sysModules ∉ as := by
    rw [nodict d hd]
    exact fun z => Bool.noConfusion z
  have hu := C.units
  cases hd with
  | non => cases ru; exact PySem.P.repr_of_none ⟨.str _, H, I.tok _, ⟨_, rfl⟩, q⟩
  | bl b => cases ru; exact PySem.P.repr_of_bool ⟨.str _, H, I.tok _, ⟨_, rfl⟩, q⟩
  | int i =>
    obtain ⟨t, rfl⟩ := ru
    exact PySem.P.repr_of_int (of_decide_eq_true hs) ⟨.str _, H, I.tok _, ⟨_, rfl⟩, q⟩
  | str x =>
    obtain ⟨t, rfl⟩ := ru
    exact PySem.P.repr_of_str ⟨.str _, H, I.tok _, ⟨_, rfl⟩, q⟩ hz
  | lst _ _ =>
    cases ru
    exact repr_of_reads' rd hs nd C.gd (by have := C.un; omega) (fun _ _ e => e) (fun h' u tk kp => ⟨.str _, H, I.kept kp, ⟨_, rfl⟩, q⟩) hz
  | tup _ _ =>
    cases ru
    exact repr_of_reads' rd hs nd C.gd (by have := C.un; omega) (fun _ _ e => e) (fun h' u tk kp => ⟨.str _, H, I.kept kp, ⟨_, rfl⟩, q⟩) hz

def rBi (K : PySem.W.Frag) (F : List Addr) (f : Bi) (fr : Bool) : List V → Hp → VK → Prop := fun xs H Q => ∃ B r st ps, Rel K F H r st ∧ Reps K F H r xs ps ∧ Post K F B r H Q (biV f fr st ps)
theorem reps1 {K : PySem.W.Frag} {H : Hp} {r : List Addr} {vs : List V} {p : PV} (h : Reps K F H r vs [p]) : ∃ v, vs = [v] ∧ Rep K F H r v p := by
  cases h with
  | cons h q => cases q; exact ⟨_, rfl, h⟩
theorem reps2 {K : PySem.W.Frag} {H : Hp} {r : List Addr} {vs : List V} {p q : PV} (h : Reps K F H r vs [p, q]) : ∃ v u, vs = [v, u] ∧ Rep K F H r v p ∧ Rep K F H r u q := by
  cases h with
  | cons h q =>
    obtain ⟨u, rfl, h2⟩ := reps1 q
    exact ⟨_, _, rfl, h, h2⟩
theorem foldl_max (ns : List Int) : ∀ (n m : Int), m ∈ n :: ns → (∀ y, y ∈ n :: ns → y ≤ m) → m = ns.foldl max n := by
  induction ns with
  | nil => intro n m h _; simpa using h
  | cons a ns ih =>
    intro n m h1 h2
    rw [List.foldl_cons]
    refine ih (max n a) m ?_ ?_
    · have hn := h2 n (by simp)
      have ha := h2 a (by simp)
      simp only [List.mem_cons] at h1 ⊢
      rcases h1 with rfl | rfl | h1
      · left; omega
      · left; omega
      · exact .inr h1
    · intro y hy
      have hn := h2 n (by simp)
      have ha := h2 a (by simp)
      rcases List.mem_cons.mp hy with rfl | hy
      · omega
      · exact h2 y (by simp [hy])
theorem foldl_min (ns : List Int) : ∀ (n m : Int), m ∈ n :: ns → (∀ y, y ∈ n :: ns → m ≤ y) → m = ns.foldl min n := by
  induction ns with
  | nil => intro n m h _; simpa using h
  | cons a ns ih =>
    intro n m h1 h2
    rw [List.foldl_cons]
    refine ih (min n a) m ?_ ?_
    · have hn := h2 n (by simp)
      have ha := h2 a (by simp)
      simp only [List.mem_cons] at h1 ⊢
      rcases h1 with rfl | rfl | h1
      · left; omega
      · left; omega
      · exact .inr h1
    · intro y hy
      have hn := h2 n (by simp)
      have ha := h2 a (by simp)
      rcases List.mem_cons.mp hy with rfl | hy
      · omega
      · exact h2 y (by simp [hy])
section
variable {X : Cx}
/-- max(a, b), compared where the heap H stands -/
theorem two_max {prog : Program} {w : World} {A : Around} {E : Value → Shared → Prop} {s : Shared} {a b : Value} {Q : Value → Shared → Prop}
    (h : wpAny (model prog w) A.in1 (pyIter (.ref s.heap.objs.size)) (fun it s₂ => ∃ I fp wr G n P St H bt, it = .ref I ∧ WalksS prog w A.in1 I fp wr G n P St ∧ St 0 s₂ ∧ (∀ b ∈ fp, b < s₂.heap.objs.size) ∧ 0 < n ∧
      (∀ b o, H.get? b = some o → b ∉ wr) ∧ (∀ b o, H.get? b = some o → s₂.heap.get? b = some o) ∧ CmpIn prog w A.in1 .Gt H P bt ∧ ∀ v s', P (argBest bt (n - 1)) v → Moved wr G s₂ s' → Q v s') E
      { s with heap := s.heap.push { cls := .type "tuple", data := .seq #[a, b] } }) : wpAny (model prog w) A (call (.builtin "max") [a, b]) Q E s := by
  have loopName : (toString "max" ++ toString ".loop" : String) = "max.loop" := by decide
  have noKw : Builtin.Builtins.bindParams "max" ["key", "default"] 0 ⟨[], []⟩ = pure [none, none] := rfl
  refine call_function_tree F.kind_max F.plain_max F.entry_max (F.args_max2 _ _) ?_
  show wpAny _ A.in1 (Builtin.Builtins.bindParams "max" ["key", "default"] 0 ⟨[], []⟩ >>= _) _ _ s
  refine wpAny_bind (wpAny_of_eq noKw ?_)
  show wpAny _ A.in1 (newTuple [a, b] >>= _) _ _ s
  refine wpAny_bind (wpAny_newObj_type (wpAny_bind (wpAny_mono h (fun it s₂ got => ?_) fun _ _ z => z)))
  obtain ⟨I, fp, wr, G, n, P, St, H, bt, rfl, wk, at0, below, pos, apart, stands, cmp, fin⟩ := got
  rw [loopName]
  refine wpAny_bind (wpAny_newObj_type (wpAny_pure ⟨plainId_quiet F.plain_max_loop _, ?_⟩))
  have out : s₂.heap.objs.size ∉ fp := fun m => absurd (below _ m) (Nat.lt_irrefl _)
  refine codeAny_max_loop_firstH wk H apart bt cmp s₂.heap.objs.size out (fresh_in stands) _ pos (fun b o e => Heap.get?_push_of_some _ (stands b o e)) (wk.frame 0 s₂ _ s₂.toks at0 (Nat.le_refl _) fun b _ o e => Heap.get?_push_of_some _ e) (Heap.get?_push_size _ rfl) fun v s' got mv => ?_
  exact fin v s' got (Moved.drop_new (tk := s₂.toks) mv (Nat.le_refl _))
theorem call_max2D (n : Nat) {hot : Bool} (C : Cal X n hot) (hh : hot = false) : CallR X (.builtin "max") (fun xs H Q => ∃ x y d e, xs = [x, y] ∧ Dp X.K H x d ∧ Dp X.K H y e ∧ PySem.W.AlikeAll [d, e] ∧ (d.depth ≤ 64 ∧ e.depth ≤ 64) ∧ Q (if PySem.W.dataLt d e = true then y else x) H) := by
  intro pins s σ H xs us Q I rv h
  obtain ⟨x, y, d, e, rfl, hd, he, ha, ⟨z1, z2⟩, q⟩ := h
  obtain ⟨v, u, rfl, r1, r2⟩ := vals2 rv
  obtain ⟨as, rd⟩ := Dp.reads I d x v hd r1
  obtain ⟨bs, re⟩ := Dp.reads I e y u he r2
  have keep : ∀ b o, s.heap.get? b = some o → (s.heap.push { cls := .type "tuple", data := .seq #[v, u] }).get? b = some o := fun b o z => Heap.get?_push_of_some _ z
  have all : ReadsAll (s.heap.push { cls := .type "tuple", data := .seq #[v, u] }) (#[v, u] : Array Value).toList [d, e] (as ++ (bs ++ [])) := .cons (Reads.keeps keep rd) (.cons (Reads.keeps keep re) .nil)
  have tup : (s.heap.push { cls := .type "tuple", data := .seq #[v, u] }).IsTuple s.heap.objs.size #[v, u] := ⟨_, Heap.get?_push_size _ rfl, rfl, 0, rfl⟩
  have room := C.un
  refine two_max (PySem.W.iter_tupleW (A := X.A.in1) (I.ok.hd (C.calm hh)) tup fun s₂ e2 wk at0 below apart stands => ?_)
  refine ⟨_, _, _, _, _, _, _, s.heap.push { cls := .type "tuple", data := .seq #[v, u] }, _, rfl, wk, at0, below, Nat.succ_pos 1, apart, stands, PySem.W.cmpIn_gt (s := { s with heap := s.heap.push { cls := .type "tuple", data := .seq #[v, u] } }) (A := X.A.in1) all ha (by
    show X.A.units + 1 + max d.depth (max e.depth 0) < cLine
    omega), fun v' s' got mv => ?_⟩
  obtain ⟨h', tk, rfl, hk⟩ := PySem.W.moved_old e2 rfl mv
  have I2 : Inv X pins σ H { s with heap := h', toks := tk } := I.kept fun b o z => hk b o (keep b o z)
  have got : (#[v, u] : Array Value)[argBest (fun i j => PySem.W.dataLt ([d, e].getD j .none) ([d, e].getD i .none)) 1]? = some v' := got
  have ab : argBest (fun i j => PySem.W.dataLt ([d, e].getD j .none) ([d, e].getD i .none)) 1 = if PySem.W.dataLt d e = true then 1 else 0 := rfl
  rw [ab] at got
  by_cases c : PySem.W.dataLt d e = true
  · rw [if_pos c] at got q
    cases got
    exact ⟨y, H, I2, r2, q⟩
  · rw [if_neg c] at got q
    cases got
    exact ⟨x, H, I2, r1, q⟩
/-- min(a, b), compared where the heap H stands -/
theorem two_min {prog : Program} {w : World} {A : Around} {E : Value → Shared → Prop} {s : Shared} {a b : Value} {Q : Value → Shared → Prop}
    (h : wpAny (model prog w) A.in1 (pyIter (.ref s.heap.objs.size)) (fun it s₂ => ∃ I fp wr G n P St H bt, it = .ref I ∧ WalksS prog w A.in1 I fp wr G n P St ∧ St 0 s₂ ∧ (∀ b ∈ fp, b < s₂.heap.objs.size) ∧ 0 < n ∧
      (∀ b o, H.get? b = some o → b ∉ wr) ∧ (∀ b o, H.get? b = some o → s₂.heap.get? b = some o) ∧ CmpIn prog w A.in1 .Lt H P bt ∧ ∀ v s', P (argBest bt (n - 1)) v → Moved wr G s₂ s' → Q v s') E
      { s with heap := s.heap.push { cls := .type "tuple", data := .seq #[a, b] } }) : wpAny (model prog w) A (call (.builtin "min") [a, b]) Q E s := by
  have loopName : (toString "min" ++ toString ".loop" : String) = "min.loop" := by decide
  have noKw : Builtin.Builtins.bindParams "min" ["key", "default"] 0 ⟨[], []⟩ = pure [none, none] := rfl
  refine call_function_tree F.kind_min F.plain_min F.entry_min (F.args_min2 _ _) ?_
  show wpAny _ A.in1 (Builtin.Builtins.bindParams "min" ["key", "default"] 0 ⟨[], []⟩ >>= _) _ _ s
  refine wpAny_bind (wpAny_of_eq noKw ?_)
  show wpAny _ A.in1 (newTuple [a, b] >>= _) _ _ s
  refine wpAny_bind (wpAny_newObj_type (wpAny_bind (wpAny_mono h (fun it s₂ got => ?_) fun _ _ z => z)))
  obtain ⟨I, fp, wr, G, n, P, St, H, bt, rfl, wk, at0, below, pos, apart, stands, cmp, fin⟩ := got
  rw [loopName]
  refine wpAny_bind (wpAny_newObj_type (wpAny_pure ⟨plainId_quiet F.plain_min_loop _, ?_⟩))
  have out : s₂.heap.objs.size ∉ fp := fun m => absurd (below _ m) (Nat.lt_irrefl _)
  refine codeAny_min_loop_firstH wk H apart bt cmp s₂.heap.objs.size out (fresh_in stands) _ pos (fun b o e => Heap.get?_push_of_some _ (stands b o e)) (wk.frame 0 s₂ _ s₂.toks at0 (Nat.le_refl _) fun b _ o e => Heap.get?_push_of_some _ e) (Heap.get?_push_size _ rfl) fun v s' got mv => ?_
  exact fin v s' got (Moved.drop_new (tk := s₂.toks) mv (Nat.le_refl _))
theorem call_min2D (n : Nat) {hot : Bool} (C : Cal X n hot) (hh : hot = false) : CallR X (.builtin "min") (fun xs H Q => ∃ x y d e, xs = [x, y] ∧ Dp X.K H x d ∧ Dp X.K H y e ∧ PySem.W.AlikeAll [d, e] ∧ (d.depth ≤ 64 ∧ e.depth ≤ 64) ∧ Q (if PySem.W.dataLt e d = true then y else x) H) := by
  intro pins s σ H xs us Q I rv h
  obtain ⟨x, y, d, e, rfl, hd, he, ha, ⟨z1, z2⟩, q⟩ := h
  obtain ⟨v, u, rfl, r1, r2⟩ := vals2 rv
  obtain ⟨as, rd⟩ := Dp.reads I d x v hd r1
  obtain ⟨bs, re⟩ := Dp.reads I e y u he r2
  have keep : ∀ b o, s.heap.get? b = some o → (s.heap.push { cls := .type "tuple", data := .seq #[v, u] }).get? b = some o := fun b o z => Heap.get?_push_of_some _ z
  have all : ReadsAll (s.heap.push { cls := .type "tuple", data := .seq #[v, u] }) (#[v, u] : Array Value).toList [d, e] (as ++ (bs ++ [])) := .cons (Reads.keeps keep rd) (.cons (Reads.keeps keep re) .nil)
  have tup : (s.heap.push { cls := .type "tuple", data := .seq #[v, u] }).IsTuple s.heap.objs.size #[v, u] := ⟨_, Heap.get?_push_size _ rfl, rfl, 0, rfl⟩
  have room := C.un
  refine two_min (PySem.W.iter_tupleW (A := X.A.in1) (I.ok.hd (C.calm hh)) tup fun s₂ e2 wk at0 below apart stands => ?_)
  refine ⟨_, _, _, _, _, _, _, s.heap.push { cls := .type "tuple", data := .seq #[v, u] }, _, rfl, wk, at0, below, Nat.succ_pos 1, apart, stands, PySem.W.cmpIn_lt (s := { s with heap := s.heap.push { cls := .type "tuple", data := .seq #[v, u] } }) (A := X.A.in1) all ha (by
    show X.A.units + 1 + max d.depth (max e.depth 0) < cLine
    omega), fun v' s' got mv => ?_⟩
  obtain ⟨h', tk, rfl, hk⟩ := PySem.W.moved_old e2 rfl mv
  have I2 : Inv X pins σ H { s with heap := h', toks := tk } := I.kept fun b o z => hk b o (keep b o z)
  have got : (#[v, u] : Array Value)[argBest (fun i j => PySem.W.dataLt ([d, e].getD i .none) ([d, e].getD j .none)) 1]? = some v' := got
  have ab : argBest (fun i j => PySem.W.dataLt ([d, e].getD i .none) ([d, e].getD j .none)) 1 = if PySem.W.dataLt e d = true then 1 else 0 := rfl
  rw [ab] at got
  by_cases c : PySem.W.dataLt e d = true
  · rw [if_pos c] at got q
    cases got
    exact ⟨y, H, I2, r2, q⟩
  · rw [if_neg c] at got q
    cases got
    exact ⟨x, H, I2, r1, q⟩
end
/-- the name of a built-in, and whether it is a type -/
def biName : Bi → Str
  | .len => "len" | .abs => "abs" | .max2 => "max" | .min2 => "min" | .maxl => "max" | .minl => "min" | .sum => "sum" | .any => "any" | .all => "all" | .int => "int" | .tuple => "tuple" | .list => "list" | .repr => "repr" | .divmod => "divmod"
def biVal : Bi → Value
  | .len => .builtin "len" | .abs => .builtin "abs" | .max2 => .builtin "max" | .min2 => .builtin "min" | .maxl => .builtin "max" | .minl => .builtin "min" | .sum => .builtin "sum" | .any => .builtin "any" | .all => .builtin "all"
  | .int => .type "int" | .tuple => .type "tuple" | .list => .type "list" | .repr => .builtin "repr" | .divmod => .builtin "divmod"
theorem call_bi (n : Nat) {hot : Bool} (C : Cal X n hot) (f : Bi) (fr : Bool) (hf : hot = false ∨ coolBi f = true) : CallR X (biVal f) (rBi X.K F f fr) := by
  have one : ∀ {B : EW} {H : Hp} {r : List Addr} {st : Store} {ps : List PV} {Q : VK}, Post X.K F B r H Q (biV f fr st ps) → ps ≠ [] := by
    intro B H r st ps Q h e
    subst e
    cases f <;> exact h.elim
  cases f with
  | len =>
    refine callr_imp (CallR.or call_len_str call_len_seq) fun xs H Q h => ?_
    obtain ⟨B, r, st, ps, R, hp, h⟩ := h
    match ps, hp, h with
    | [], _, h => exact h.elim
    | p :: _ :: _, _, h => cases p <;> exact h.elim
    | [p], hp, h =>
      obtain ⟨v, rfl, hv⟩ := reps1 hp
      cases hv with
      | str x =>
        simp only [biV] at h
        split at h
        · exact .inl ⟨x, rfl, by assumption, h.here R (.int _)⟩
        · exact h.elim
      | @lsv a vs ps e q => exact .inr ⟨a, vs, rfl, .inl e.seq, by rw [q.length]; exact h.here R (.int _)⟩
      | @tup a vs ps e q => exact .inr ⟨a, vs, rfl, .inr e, by rw [q.length]; exact h.here R (.int _)⟩
      | @loc a i e =>
        obtain ⟨xs, vs, e1, e2, q⟩ := R.cell e
        simp only [biV, seqA, e1] at h
        exact .inr ⟨a, vs, rfl, .inl (.of e2), by rw [q.length]; exact h.here R (.int _)⟩
      | _ => exact h.elim
  | abs =>
    refine callr_imp call_abs fun xs H Q h => ?_
    obtain ⟨B, r, st, ps, R, hp, h⟩ := h
    match ps, hp, h with
    | [], _, h => exact h.elim
    | p :: _ :: _, _, h => cases p <;> exact h.elim
    | [p], hp, h =>
      obtain ⟨v, rfl, hv⟩ := reps1 hp
      cases hv with
      | int i => exact ⟨i, rfl, h.here R (.int _)⟩
      | _ => exact h.elim
  | max2 =>
    have hh : hot = false := hf.elim id fun z => by cases z
    refine callr_imp (CallR.or (call_max2 (C.calm hh)) (call_max2D n C hh)) fun xs H Q h => ?_
    obtain ⟨B, r, st, ps, R, hp, h⟩ := h
    match ps, hp, h with
    | [], _, h => exact h.elim
    | [p], _, h => cases p <;> exact h.elim
    | p :: q :: _ :: _, _, h => cases p <;> first | exact h.elim | (cases q <;> exact h.elim)
    | [p, q], hp, h =>
      obtain ⟨v, u, rfl, hv, hq⟩ := reps2 hp
      cases p <;> first | (cases q <;> exact h.elim) | skip
      · cases q <;> first | exact h.elim | skip
        cases hv
        cases hq
        exact .inl ⟨_, _, rfl, h.here R (.int _)⟩
      · cases q <;> first | exact h.elim | skip
        rename_i xs ys
        refine .inr ?_
        simp only [biV] at h
        unfold ltP at h
        split at h
        · rename_i b hb
          split at hb
          · rename_i c
            cases hb
            simp only [alikeP, Bool.and_eq_true, decide_eq_true_eq] at c
            obtain ⟨⟨⟨⟨⟨⟨⟨c1, c2⟩, c3⟩, c4⟩, c5⟩, c6⟩, c7⟩, c8⟩ := c
            refine ⟨v, u, (PV.tup xs).toD, (PV.tup ys).toD, rfl, hv.dp c1, hq.dp c2, ⟨fun x hx y hy => ?_, fun x hx => ?_⟩, ⟨c7, c8⟩, ?_⟩
            · simp only [List.mem_cons, List.not_mem_nil, or_false] at hx hy
              rcases hx with rfl | rfl <;> rcases hy with rfl | rfl <;> assumption
            · simp only [List.mem_cons, List.not_mem_nil, or_false] at hx
              rcases hx with rfl | rfl <;> exact fun z => (nomatch z)
            · split at h
              · rename_i k
                rw [if_pos k]; exact h.here R hq
              · rename_i k
                rw [if_neg k]; exact h.here R hv
          · cases hb
        · exact h.elim
  | min2 =>
    have hh : hot = false := hf.elim id fun z => by cases z
    refine callr_imp (CallR.or (call_min2 (C.calm hh)) (call_min2D n C hh)) fun xs H Q h => ?_
    obtain ⟨B, r, st, ps, R, hp, h⟩ := h
    match ps, hp, h with
    | [], _, h => exact h.elim
    | [p], _, h => cases p <;> exact h.elim
    | p :: q :: _ :: _, _, h => cases p <;> first | exact h.elim | (cases q <;> exact h.elim)
    | [p, q], hp, h =>
      obtain ⟨v, u, rfl, hv, hq⟩ := reps2 hp
      cases p <;> first | (cases q <;> exact h.elim) | skip
      · cases q <;> first | exact h.elim | skip
        cases hv
        cases hq
        exact .inl ⟨_, _, rfl, h.here R (.int _)⟩
      · cases q <;> first | exact h.elim | skip
        rename_i xs ys
        refine .inr ?_
        simp only [biV] at h
        unfold ltP at h
        split at h
        · rename_i b hb
          split at hb
          · rename_i c
            cases hb
            simp only [alikeP, Bool.and_eq_true, decide_eq_true_eq] at c
            obtain ⟨⟨⟨⟨⟨⟨⟨c1, c2⟩, c3⟩, c4⟩, c5⟩, c6⟩, c7⟩, c8⟩ := c
            refine ⟨v, u, (PV.tup xs).toD, (PV.tup ys).toD, rfl, hv.dp c2, hq.dp c1, ⟨fun x hx y hy => ?_, fun x hx => ?_⟩, ⟨c8, c7⟩, ?_⟩
            · simp only [List.mem_cons, List.not_mem_nil, or_false] at hx hy
              rcases hx with rfl | rfl <;> rcases hy with rfl | rfl <;> assumption
            · simp only [List.mem_cons, List.not_mem_nil, or_false] at hx
              rcases hx with rfl | rfl <;> exact fun z => (nomatch z)
            · split at h
              · rename_i k
                rw [if_pos k]; exact h.here R hq
              · rename_i k
                rw [if_neg k]; exact h.here R hv
          · cases hb
        · exact h.elim
  | maxl =>
    have hh : hot = false := hf.elim id fun z => by cases z
    refine callr_imp (cr_max (C.calm hh)) fun xs H Q h => ?_
    obtain ⟨B, r, st, ps, R, hp, h⟩ := h
    match ps, hp, h with
    | [], _, h => exact h.elim
    | p :: _ :: _, _, h => exact h.elim
    | [p], hp, h =>
      obtain ⟨v, rfl, hv⟩ := reps1 hp
      simp only [biV] at h
      split at h
      · rename_i k ks e
        rw [Option.bind_eq_some_iff] at e
        obtain ⟨ys, e1, e2⟩ := e
        obtain ⟨a, vs, rfl, s1, q1⟩ := hv.seqL R e1
        have e3 := reps_ints q1 e2
        subst e3
        refine ⟨a, k :: ks, rfl, s1, by simp, fun m h1 h2 => ?_⟩
        rw [foldl_max ks k m h1 h2]
        exact h.here R (.int _)
      · exact h.elim
  | minl =>
    have hh : hot = false := hf.elim id fun z => by cases z
    refine callr_imp (cr_min (C.calm hh)) fun xs H Q h => ?_
    obtain ⟨B, r, st, ps, R, hp, h⟩ := h
    match ps, hp, h with
    | [], _, h => exact h.elim
    | p :: _ :: _, _, h => exact h.elim
    | [p], hp, h =>
      obtain ⟨v, rfl, hv⟩ := reps1 hp
      simp only [biV] at h
      split at h
      · rename_i k ks e
        rw [Option.bind_eq_some_iff] at e
        obtain ⟨ys, e1, e2⟩ := e
        obtain ⟨a, vs, rfl, s1, q1⟩ := hv.seqL R e1
        have e3 := reps_ints q1 e2
        subst e3
        refine ⟨a, k :: ks, rfl, s1, by simp, fun m h1 h2 => ?_⟩
        rw [foldl_min ks k m h1 h2]
        exact h.here R (.int _)
      · exact h.elim
  | sum =>
    have hh : hot = false := hf.elim id fun z => by cases z
    refine callr_imp (cr_sum (C.calm hh)) fun xs H Q h => ?_
    obtain ⟨B, r, st, ps, R, hp, h⟩ := h
    match ps, hp, h with
    | [], _, h => exact h.elim
    | p :: _ :: _, _, h => exact h.elim
    | [p], hp, h =>
      obtain ⟨v, rfl, hv⟩ := reps1 hp
      simp only [biV] at h
      split at h
      · rename_i ks e
        rw [Option.bind_eq_some_iff] at e
        obtain ⟨ys, e1, e2⟩ := e
        obtain ⟨a, vs, rfl, s1, q1⟩ := hv.seqL R e1
        have e3 := reps_ints q1 e2
        subst e3
        exact ⟨a, ks, rfl, s1, h.here R (.int _)⟩
      · exact h.elim
  | any =>
    have hh : hot = false := hf.elim id fun z => by cases z
    refine callr_imp (cr_any (C.calm hh)) fun xs H Q h => ?_
    obtain ⟨B, r, st, ps, R, hp, h⟩ := h
    match ps, hp, h with
    | [], _, h => exact h.elim
    | p :: _ :: _, _, h => exact h.elim
    | [p], hp, h =>
      obtain ⟨v, rfl, hv⟩ := reps1 hp
      simp only [biV] at h
      split at h
      · rename_i ks e
        rw [Option.bind_eq_some_iff] at e
        obtain ⟨ys, e1, e2⟩ := e
        obtain ⟨a, vs, rfl, s1, q1⟩ := hv.seqL R e1
        have e3 := reps_bls q1 e2
        subst e3
        exact ⟨a, ks, rfl, s1, h.here R (.bl _)⟩
      · exact h.elim
  | all =>
    have hh : hot = false := hf.elim id fun z => by cases z
    refine callr_imp (cr_all (C.calm hh)) fun xs H Q h => ?_
    obtain ⟨B, r, st, ps, R, hp, h⟩ := h
    match ps, hp, h with
    | [], _, h => exact h.elim
    | p :: _ :: _, _, h => exact h.elim
    | [p], hp, h =>
      obtain ⟨v, rfl, hv⟩ := reps1 hp
      simp only [biV] at h
      split at h
      · rename_i ks e
        rw [Option.bind_eq_some_iff] at e
        obtain ⟨ys, e1, e2⟩ := e
        obtain ⟨a, vs, rfl, s1, q1⟩ := hv.seqL R e1
        have e3 := reps_bls q1 e2
        subst e3
        exact ⟨a, ks, rfl, s1, h.here R (.bl _)⟩
      · exact h.elim
  | int =>
    refine callr_imp call_int1 fun xs H Q h => ?_
    obtain ⟨B, r, st, ps, R, hp, h⟩ := h
    match ps, hp, h with
    | [], _, h => exact h.elim
    | p :: _ :: _, _, h => cases p <;> exact h.elim
    | [p], hp, h =>
      obtain ⟨v, rfl, hv⟩ := reps1 hp
      cases hv with
      | int i => exact .inl ⟨i, rfl, h.here R (.int _)⟩
      | bl b => exact .inr ⟨b, rfl, h.here R (.int _)⟩
      | _ => exact h.elim
  | tuple =>
    refine callr_imp call_tuple_of fun xs H Q h => ?_
    obtain ⟨B, r, st, ps, R, hp, h⟩ := h
    match ps, hp, h with
    | [], _, h => exact h.elim
    | p :: _ :: _, _, h => cases p <;> exact h.elim
    | [p], hp, h =>
      obtain ⟨v, rfl, hv⟩ := reps1 hp
      cases hv with
      | @lsv a vs ps e q => exact ⟨a, vs, rfl, .inl ⟨e.seq, h.tup R q⟩⟩
      | @tup a vs ps e q => exact ⟨a, vs, rfl, .inr ⟨e, h.here R (.tup e q)⟩⟩
      | @loc a i e =>
        obtain ⟨xs, vs, e1, e2, q⟩ := R.cell e
        simp only [biV, seqL, e1] at h
        exact ⟨a, vs, rfl, .inl ⟨.of e2, h.tup R q⟩⟩
      | _ => exact h.elim
  | list =>
    refine callr_imp call_list_of fun xs H Q h => ?_
    obtain ⟨B, r, st, ps, R, hp, h⟩ := h
    match ps, hp, h with
    | [], _, h => exact h.elim
    | p :: _ :: _, _, h => exact h.elim
    | [p], hp, h =>
      obtain ⟨v, rfl, hv⟩ := reps1 hp
      simp only [biV] at h
      split at h
      · rename_i ys e1
        obtain ⟨a, vs, rfl, s1, q1⟩ := hv.seqA R e1
        exact ⟨a, vs, rfl, s1, h.lst R q1⟩
      · exact h.elim
  | repr =>
    refine callr_imp (call_reprD n C) fun xs H Q h => ?_
    obtain ⟨B, r, st, ps, R, hp, h⟩ := h
    match ps, hp, h with
    | [], _, h => exact h.elim
    | p :: _ :: _, _, h => exact h.elim
    | [p], hp, h =>
      obtain ⟨v, rfl, hv⟩ := reps1 hp
      simp only [biV] at h
      split at h
      · rename_i c
        exact ⟨v, _, rfl, hv.dp c.1, c.2.1, c.2.2.1, c.2.2.2, h.here R (.str _)⟩
      · exact h.elim
  | divmod =>
    refine callr_imp call_divmod fun xs H Q h => ?_
    obtain ⟨B, r, st, ps, R, hp, h⟩ := h
    match ps, hp, h with
    | [], _, h => exact h.elim
    | [p], _, h => cases p <;> exact h.elim
    | p :: q :: _ :: _, _, h => cases p <;> first | exact h.elim | (cases q <;> exact h.elim)
    | [p, q], hp, h =>
      obtain ⟨v, u, rfl, hv, hq⟩ := reps2 hp
      cases p <;> first | (cases q <;> exact h.elim) | skip
      cases q <;> first | exact h.elim | skip
      cases hv
      cases hq
      simp only [biV] at h
      split at h
      · rename_i c
        exact ⟨_, _, rfl, c, h.tup R (.cons (.int _) (.cons (.int _) .nil))⟩
      · exact h.elim

end
/-! ### methods of lists -/
/-- list.extend by a sequence, whatever its object bears besides -/
theorem ext_any (T : String) (hT : T = "list" ∨ T = "tuple") (l : Addr) (xs : Array Value) (n : Nat) (b : Addr) (ys : Array Value) (m : Nat) (dd : Option Addr) (sl : Array (Option Value))
    (h0 : ¬(!xs.isEmpty && Builtin.List.listTooLong (xs.size + ys.size)) = true) (h1 : xs.size ≤ sizeLine) (h2 : xs.size + ys.size ≤ sizeLine + 1) :
    Meets (Builtin.«list.extend» ⟨[.ref l, .ref b], []⟩) (fun _ R s =>
      s.heap.get? l = some { cls := .type "list", dict := none, data := .seq xs n, slots := #[] } ∧
      s.heap.get? b = some { cls := .type T, dict := dd, data := .seq ys m, slots := sl } ∧
      R (.ok (.ret Value.none)) { s with heap := s.heap.update l (Obj.mapSeq fun x => x ++ ys), toks := s.toks }) := by
  refine .of_wp fun prog w A R s h => ?_
  obtain ⟨hp, g, d, tk, os⟩ := s
  obtain ⟨hl, hb, h⟩ := h
  have q1 := AutoSeq1.idx_int
  have q2 := AutoSeq1.sub_tuple_tuple
  have q3 := AutoSeq1.sub_list_list
  have q4 := AutoSeq1.sub_tuple_list
  have q5 := AutoSeq1.sub_list_tuple
  have hz : (xs ++ ys).size ≤ sizeLine + 1 := by
    rw [Array.size_append]; exact h2
  rcases hT with rfl | rfl
  · wp_walk using (PySem.wpAny_updateSeq hl rfl (hz := h1) (_hz' := hz)), AutoSeq1.wpAny_loadPart' hl, AutoSeq1.wpAny_loadPart' hb
    exact ⟨_, rfl, h⟩
  · wp_walk using (PySem.wpAny_updateSeq hl rfl (hz := h1) (_hz' := hz)), AutoSeq1.wpAny_loadPart' hl, AutoSeq1.wpAny_loadPart' hb
    exact ⟨_, rfl, h⟩
section
variable {X : Cx} {F : List Addr}
/-- xs.extend(a list or a tuple) -/
theorem mt_extS : MtR X "list.extend" (fun x vs H Q => ∃ l b xs zs, x = .ref l ∧ vs = [.ref b] ∧ H l = some (.lst xs) ∧ (SqL X.K H b zs ∨ SqT X.K H b zs) ∧ xs.length + zs.length ≤ sizeLine ∧ Q .non (upd H l (.lst (xs ++ zs)))) := by
  intro pins s σ H x vs v us Q I rx rv h
  obtain ⟨l, b, xs, zs, rfl, rfl, hH, hB, hz, q⟩ := h
  cases rx
  obtain ⟨u, rfl, ru⟩ := rv.one
  cases ru
  obtain ⟨z, its, n, r, hl, e⟩ := I.lstM hH
  have big : ∀ k : Nat, its.toArray.size + k ≤ sizeLine → ¬ (!its.toArray.isEmpty && Builtin.List.listTooLong (its.toArray.size + k)) = true := by
    intro k hk
    rw [notLongL hk, Bool.and_false]
    exact Bool.false_ne_true
  have done : ∀ (T : String) (ws : List Value) (dd : Option Addr) (m : Nat) (sl : Array (Option Value)), T = "list" ∨ T = "tuple" → Vals zs ws → s.heap.get? b = some { cls := .type T, dict := dd, data := .seq ws.toArray m, slots := sl } →
      wpAny (model X.prog X.w) X.A (call (.builtin "list.extend") [.ref l, .ref b]) (EP X pins σ Q) X.xe s := by
    intro T ws dd m sl hT r2 g2
    have hl2 := r2.length
    have hz2 : its.toArray.size + ws.toArray.size ≤ sizeLine := by rw [List.size_toArray, List.size_toArray]; omega
    refine call_meets F.slot_list_extend ⟨_, e, rfl⟩ F.entry_list_extend (F.args_list_extend_2 _ _)
      (ext_any T hT l its.toArray n b ws.toArray m dd sl (big _ hz2) (by omega) (by omega)) ⟨e, g2, ?_⟩
    exact ⟨.non, _, I.lset (its' := its ++ ws) hH e (by simp) (r.append r2) (by rw [List.length_append]; omega), rfl, q⟩
  rcases hB with hB | hB
  · obtain ⟨ws, r2, ⟨⟨c2, d2, t2, s2⟩, n2, g2, rfl, rfl, rfl⟩, _⟩ := I.list hB
    exact done "list" ws none n2 s2 (.inl rfl) r2 g2
  · obtain ⟨ws, r2, ⟨⟨c2, d2, t2, s2⟩, g2, rfl, n2, rfl⟩, _⟩ := I.tuple hB
    exact done "tuple" ws d2 n2 s2 (.inr rfl) r2 g2

def meId : Me → String
  | .append => "list.append" | .extend => "list.extend" | .pop => "list.pop"
def meName : Me → Str
  | .append => "append" | .extend => "extend" | .pop => "pop"
def rMe (K : PySem.W.Frag) (F : List Addr) (m : Me) : V → List V → Hp → VK → Prop := fun x vs H Q => ∃ B r st i a ps, x = .ref a ∧ Rel K F H r st ∧ r[i]? = some a ∧ Reps K F H r vs ps ∧ Post K F B r H Q (meV m st i ps)
theorem mtr_imp {id : String} {r r' : V → List V → Hp → VK → Prop} (h : MtR X id r) (i : ∀ x xs H Q, r' x xs H Q → r x xs H Q) : MtR X id r' :=
  fun pins s σ H x xs v us Q I rx rs q => h pins s σ H x xs v us Q I rx rs (i _ _ _ _ q)
theorem mt_me (m : Me) : MtR X (meId m) (rMe X.K F m) := by
  cases m with
  | append =>
    refine mtr_imp (r := rAppend) mt_append fun x vs H Q h => ?_
    obtain ⟨B, r, st, i, a, ps, rfl, R, ha, hp, h⟩ := h
    obtain ⟨xs, ws, e1, e2, q⟩ := R.cell ha
    match ps, hp, h with
    | [], _, h => simp only [meV, e1] at h; exact h.elim
    | p :: _ :: _, _, h => simp only [meV, e1] at h; exact h.elim
    | [p], hp, h =>
      obtain ⟨v, rfl, hv⟩ := reps1 hp
      simp only [meV, e1] at h
      split at h
      · rename_i hz
        have q2 : Reps X.K F H r (ws ++ [v]) (xs ++ [p]) := q.append (.cons hv .nil)
        exact ⟨a, ws, v, rfl, rfl, e2, by rw [q.length]; exact hz, h _ _ r (.write (List.mem_of_getElem? ha)) (R.write ha q2) .non⟩
      · exact h.elim
  | extend =>
    refine mtr_imp mt_extS fun x vs H Q h => ?_
    obtain ⟨B, r, st, i, a, ps, rfl, R, ha, hp, h⟩ := h
    obtain ⟨xs, ws, e1, e2, q⟩ := R.cell ha
    match ps, hp, h with
    | [], _, h => simp only [meV, e1] at h; exact h.elim
    | p :: _ :: _, _, h => simp only [meV, e1] at h; exact h.elim
    | [p], hp, h =>
      obtain ⟨v, rfl, hv⟩ := reps1 hp
      simp only [meV, e1] at h
      split at h
      · rename_i zs e3
        split at h
        · rename_i hz
          obtain ⟨b, us, rfl, s1, q1⟩ := hv.seqA R e3
          refine ⟨a, b, ws, us, rfl, rfl, e2, s1, by rw [q.length, q1.length]; exact hz, ?_⟩
          exact h _ _ r (.write (List.mem_of_getElem? ha)) (R.write ha (q.append q1)) .non
        · exact h.elim
      · exact h.elim
  | pop =>
    refine mtr_imp (r := rPop) mt_pop fun x vs H Q h => ?_
    obtain ⟨B, r, st, i, a, ps, rfl, R, ha, hp, h⟩ := h
    obtain ⟨xs, ws, e1, e2, q⟩ := R.cell ha
    match ps, hp, h with
    | _ :: _, _, h => simp only [meV, e1] at h; exact h.elim
    | [], hp, h =>
      cases hp
      simp only [meV, e1] at h
      split at h
      · rename_i y e3
        obtain ⟨v, e4, hv⟩ := q.get2 e3
        have A : Aft r H r (upd H a (.lst ws.dropLast)) := .write (List.mem_of_getElem? ha)
        exact ⟨a, ws, v, rfl, rfl, e2, by rw [q.length]; exact e4, h _ _ r A (R.write ha q.dropLast) (hv.aft R A)⟩
      · exact h.elim
end
end L2.Iv

/-! IvX: errors that are caught, as values of the language: their field, their class, try. Own work. -/
namespace L2.Iv
open PySem PySem.Spec PyProof.Rows

/-- what the written part tells of a class of errors -/
structure KitC (K : PySem.W.Frag) (C : Addr) : Prop where
  cl : (PySem.W.clsIn K C).isSome = true
  ga : PySem.W.findIn K (.ref C) "__getattribute__" = some (some (.builtin "BaseException.__getattribute__"))
  gg : PySem.W.findIn K (.ref C) "__getattr__" = some none
  ex : PySem.W.subIn K (.ref C) (.type "BaseException") = some true
  hd : PySem.W.hasDictIn K C = true
  ca : PySem.W.findIn K (.ref C) "__class__" = some (some (.builtin "object.__class__"))
  cg : PySem.W.specialIn K (.builtin "object.__class__") "__get__" = some (some (.builtin "getset_descriptor.__get__"))
  ct : PySem.W.takesIn K (.builtin "object.__class__") = some true
  mo : PySem.W.mroIn K C (.type "object") = some true
  nv : PySem.W.findIn K (.ref C) "value" = some none

section
variable {X : Cx} {pins : List (Addr × Obj)} {σ : St} {H : Hp} {s : Shared} {a C dd : Addr}
theorem exc_at (I : Inv X pins σ H s) (h : H a = some (.ext (excP a C dd))) : ∃ o, s.heap.get? a = some o ∧ Zc (.ref C) (some dd) o ∧ ∃ vs, o.data = .fields vs := by
  obtain ⟨h1, _⟩ : ObjOk X.prog X.w H s.heap a (.ext (excP a C dd)) := I.hok a _ h
  exact h1
/-- the dict of the error, and the error as an instance -/
theorem exc_inst {fs : List (Str × V)} (I : Inv X pins σ H s) (h : H a = some (.ext (excP a C dd))) (hx : H dd = some (.xd fs)) : ∃ o od, PySem.W.InstAt s.heap a o C (some od) ∧ ∀ f, RelO (fs.lookup f) (((PySem.W.lookIn f od).getD none)) ∧ (PySem.W.lookIn f od).isSome = true := by
  obtain ⟨o, ho, hz, vs, hv⟩ := exc_at I h
  obtain ⟨mA, hns, hr⟩ : ObjOk X.prog X.w H s.heap dd (.xd fs) := I.hok dd _ hx
  obtain ⟨od, hod, hl⟩ := lookIn_ns hns
  refine ⟨o, od, ⟨ho, hz.1, by unfold PySem.W.notCls; rw [hv] <;> rfl, by rw [hz.2]; exact hod⟩, fun f => ?_⟩
  rw [hl f]
  exact ⟨hr f, rfl⟩
/-- e.value -/
def tFv (K : PySem.W.Frag) (te : TE) : TE := fun σ H Q => te σ H fun x H1 => ∃ (a C dd : Addr) (v : V), x = .ref a ∧ H1 a = some (.ext (excP a C dd)) ∧ H1 dd = some (.xd [("value", v)]) ∧ KitC K C ∧ Q v H1
theorem pe_fv {e : Expr} {te : TE} {pos : Pos} (he : PE X e te) (hb : attributeBase e "value" X.env (eval e X.env) = eval e X.env) : PE X (.Attribute e "value" pos) (tFv X.K te) := by
  refine ⟨fun pins s σ H Q I h => attr_of hb (thn (he.run pins s σ H _ I h) fun u s1 hh => ?_)⟩
  obtain ⟨x, H1, I1, rx, a, C, dd, v, rfl, h1, h2, T, q⟩ := hh
  obtain rfl : u = Value.ref a := rx
  obtain ⟨o, od, J, hl⟩ := exc_inst I1 h1 h2
  obtain ⟨hl1, hl2⟩ := hl "value"
  obtain ⟨r, hr⟩ := Option.isSome_iff_exists.mp hl2
  rw [hr] at hl1
  have hl1 : RelO (some v) r := hl1
  cases r with
  | none => exact hl1.elim
  | some w =>
    have rv : RelV v w := hl1
    exact HandSPX.exc_get I1.kIn J T.ga T.gg T.ex (PySem.W.findObj_own T.hd T.nv rfl (by first | exact hr | (rw [hr]))) (handed_of rv) ⟨v, H1, I1.tok _, rv, q⟩
/-- isinstance(e, c): e a caught error or None -/
def rIse (K : PySem.W.Frag) : List V → Hp → VK → Prop := fun xs H Q => ∃ (x c : V) (u : Value) (b : Bool), xs = [x, c] ∧ ClsV c u ∧ Q (.bl b) H ∧
  ((x = .non ∧ PySem.W.kitOne K (.type "NoneType") u = some b) ∨ ∃ (a C dd : Addr) (fs : List (Str × V)), x = .ref a ∧ H a = some (.ext (excP a C dd)) ∧ H dd = some (.xd fs) ∧ KitC K C ∧ PySem.W.kitOne K (.ref C) u = some b)
theorem call_ise : CallR X (.builtin "isinstance") (rIse X.K) := by
  intro pins s σ H xs us Q I r h
  obtain ⟨x, c, u, b, rfl, hc, q, h⟩ := h
  obtain ⟨u1, u2, rfl, r1, r2⟩ := vals2 r
  have e2 := hc.eq r2
  subst e2
  rcases h with ⟨rfl, hk⟩ | ⟨a, C, dd, fs, rfl, h1, h2, T, hk⟩
  · cases (show u1 = Value.none from r1)
    exact PySem.W.kia_one PySem.W.kitx_none I.kIn True.intro hk (fun z => nomatch z) fun tk => ⟨.bl b, H, I.tok tk, rfl, q⟩
  · cases (show u1 = Value.ref a from r1)
    obtain ⟨o, od, J, _⟩ := exc_inst I h1 h2
    exact PySem.W.kia_one (PySem.W.kitx_exc T.cl T.ga T.gg T.ex T.ca T.cg T.ct T.mo) I.kIn J hk (fun z => nomatch z) fun tk => ⟨.bl b, H, I.tok tk, rfl, q⟩
/-- an error that was caught is known from now on -/
theorem Inv.track {oe : Obj} (I : Inv X pins σ H s) (hg : s.heap.get? a = some oe) (hz : Zc (.ref C) (some dd) oe) (hf : ∃ vs, oe.data = .fields vs) (na : H a = none) (n0 : X.s_0.heap.get? a = none) (nl : a ≠ X.env.locals) (np : ∀ p ∈ X.pn ++ pins, p.1 ≠ a) :
    Inv X pins σ (upd H a (.ext (excP a C dd))) s := by
  have old : ∀ {b : Addr} {o : HO}, H b = some o → upd H a (.ext (excP a C dd)) b = some o := fun {b o} e => by rw [upd_ne (ne_of_none e na)]; exact e
  have off : ∀ {b : Addr}, b ≠ a → H b = none → upd H a (.ext (excP a C dd)) b = none := fun {b} n e => by rw [upd_ne n]; exact e
  refine ⟨I.ok, I.os, I.bare, ⟨I.base.keep, I.base.slot, fun b o e n hx => ?_, I.base.there, fun b xs e => old (I.base.tups b xs e), fun b o u e => old (I.base.frzs b o u e), fun b ps e => ?_⟩, I.loc, I.cell, off (Ne.symm nl) I.free, fun x c e => ?_, fun p hp => ?_, fun b o e => ?_, I.len⟩
  · refine off (fun z => ?_) (I.base.free b o e n hx)
    rw [z, n0] at e; cases e
  · obtain ⟨more, q⟩ := I.base.tbls b ps e
    exact ⟨more, old q⟩
  · refine off (fun z => ?_) (I.freeC x c e)
    obtain ⟨w, hw⟩ := I.cell x c e
    obtain ⟨vs, hv⟩ := hf
    obtain ⟨oc, h1, h2⟩ := hw
    rw [z, hg] at h1
    cases h1
    have h2 : oe.data = .cell w := h2
    rw [hv] at h2; cases h2
  · obtain ⟨q1, q2, q3⟩ := I.pin p hp
    exact ⟨q1, off (np p hp) q2, q3⟩
  · by_cases hb : b = a
    · subst hb
      rw [upd_same] at e
      cases e
      exact ⟨⟨oe, hg, hz, hf⟩, ⟨oe, hg⟩, fun h1 h2 ⟨o, w1, w2⟩ k => ⟨o, k o w1, w2⟩⟩
    · rw [upd_ne hb] at e
      exact (I.hok b o e).stay (fun _ _ _ q => q) (fun c q => old q) fun c xs q => old q
end

/-! ### try -/
/-- the slot of a clause's name, with the error in it, and out of it -/
def slotIn (i : Option Nat) (a : Addr) (σ : St) : St := match i with
  | some i => σ.set i (some (.ref a))
  | none => σ
def slotOut (i : Option Nat) (σ : St) : St := match i with
  | some i => σ.set i none
  | none => σ
def endsOut (i : Option Nat) (D : Ends) : Ends := { nx := fun σ' H' => D.nx (slotOut i σ') H', rt := D.rt, bk := fun σ' H' => D.bk (slotOut i σ') H', ct := fun σ' H' => D.ct (slotOut i σ') H' }
/-- what the clauses wish, one behind the other: the class, the slot, the suite -/
def wTry (K : PySem.W.Frag) (Wout : WX) (D : Ends) : List (Value × Option Nat × TS) → WX
  | [] => Wout
  | (c, i, ts) :: l => fun cls d σ H => ∃ b, PySem.W.exmOne K cls c = some b ∧ (b = false → wTry K Wout D l cls d σ H) ∧
      (b = true → ∃ C dd : Addr, cls = .ref C ∧ d = some dd ∧ ∀ a : Addr, H a = none → ts (endsOut i D) (slotIn i a σ) (upd H a (.ext (excP a C dd))))
/-- the clauses of the text -/
inductive Clauses (X : Cx) : List ExceptHandler → List (Value × Option Nat × TS) → Prop
  | nil : Clauses X [] []
  | bare {x : Str} {c : Value} {ts : TS} {b0 : Stmt} {bs : List Stmt} {p1 p2 : Pos} {hds : List ExceptHandler} {l : List (Value × Option Nat × TS)} (hc : Names X x c)
      (su : ∀ (a : Addr) (pn : List (Addr × Obj)), PSs (X.suite a pn) (b0 :: bs) ts) (more : Clauses X hds l) : Clauses X (.ExceptHandler (some (.Name x p1)) none (b0 :: bs) p2 :: hds) ((c, none, ts) :: l)
  | named {x n : Str} {i : Nat} {c : Value} {ts : TS} {b0 : Stmt} {bs : List Stmt} {p1 p2 : Pos} {hds : List ExceptHandler} {l : List (Value × Option Nat × TS)} (hc : Names X x c) (hi : X.N[i]? = some n) (hk : X.env.kindOf n = some .local)
      (su : ∀ (a : Addr) (pn : List (Addr × Obj)), PSs (X.suite a pn) (b0 :: bs) ts) (more : Clauses X hds l) : Clauses X (.ExceptHandler (some (.Name x p1)) (some n) (b0 :: bs) p2 :: hds) ((c, some i, ts) :: l)

section
variable {X : Cx} {pins : List (Addr × Obj)} {σ : St} {H : Hp} {s : Shared}
theorem toSuite (I : Inv X pins σ H s) (a : Addr) : Inv (X.suite a (X.pn ++ pins)) [] σ H s := by
  refine ⟨I.ok.suite a _, I.os, I.bare, I.base, I.loc, I.cell, I.free, I.freeC, fun p hp => I.pin p ?_, I.hok, I.len⟩
  rwa [List.append_nil] at hp
theorem ofSuite {a : Addr} {pn' : List (Addr × Obj)} (J : Inv (X.suite a (X.pn ++ pins)) pn' σ H s) (ok : X.Ok) : Inv X pins σ H s :=
  ⟨ok, J.os, J.bare, J.base, J.loc, J.cell, J.free, J.freeC, fun p hp => J.pin p (List.mem_append_left _ hp), J.hok, J.len⟩
end
section
variable {X : Cx} {tb : WX → TS} {Wout : WX} {body : List Stmt} {h0 : ExceptHandler} {hds : List ExceptHandler} {l : List (Value × Option Nat × TS)} {pos : Pos}
/-- try: body, then its clauses -/
theorem ps_tryK (stk : X.stack = X.env :: X.outer) (fr : X.env.frame = some X.env.locals) (noex : X.ex = []) (nd : X.N.Nodup) (tk : Takes X Wout)
    (hbody : ∀ (W : WX) (pn : List (Addr × Obj)) (xe : Value → Shared → Prop), Takes (X.tr pn xe) W → PassesOwn (model X.prog X.w) X.A X.env xe → PSs (X.tr pn xe) body (tb W))
    (cl : Clauses X (h0 :: hds) l) : PS X (.Try body (h0 :: hds) [] [] pos) (fun D σ H => tb (wTry X.K Wout D l) D σ H) := by
  refine ⟨fun pins s σ H D I want => ?_⟩
  have ok := I.ok
  have frames : X.A.frames = some (X.env :: X.outer) := by rw [ok.frames, stk]
  refine wpAny_Try_except (wpAny_mono ((hbody (wTry X.K Wout D l) (X.pn ++ pins) _ (fun u s' air => ?_) PassesOwn.looking).run [] s σ H D (I.toTry _) want) (fun fl s1 done => ?_) (fun e s1 he => he))
  · obtain ⟨a, B, sI, pins2, σ2, H2, cls, d, rfl, J0, ground, up, sky, na, os, bare, wish⟩ := air
    have J := J0.ofTry ok
    rw [show (X.tr (X.pn ++ pins) _).stack = X.env :: X.outer from stk] at sky
    refine Sky.land Zc.steady frames fr sky fun h3 fly3 up3 => ?_
    have up3 := up.trans up3
    have J3 : Inv X pins σ2 H2 { s' with heap := h3 } := J.landed ground fly3.1 up3 os bare
    have apart : ∀ {h : Heap} {o : Obj} {vs : Array Value}, h.FunFrames B (X.env :: X.outer) → h.get? a = some o → o.data = .fields vs → a ∉ frs (X.env :: X.outer) := fun ff e e2 m => by
      obtain ⟨_, o2, e3, no⟩ := ff.mem m
      exact no _ (by rw [e] at e3; cases e3; exact e2)
    obtain ⟨oe3, vs3, at3, z3, f3⟩ := fly3.there
    have nfr := apart fly3.2.2.1 at3 f3
    have nL : a ≠ X.env.locals := fun z => nfr (List.mem_filterMap.mpr ⟨X.env, List.mem_cons_self, by rw [fr, z]⟩)
    have new1 : sI.heap.get? a = none := by
      cases e : sI.heap.get? a with
      | none => rfl
      | some o =>
        have z := ground a o e (by rw [stk]; exact nfr)
        rw [fly3.2.1] at z; cases z
    have new0 : X.s_0.heap.get? a = none := by
      cases e : X.s_0.heap.get? a with
      | none => rfl
      | some o =>
        obtain ⟨o2, z⟩ := J.base.there a o e (by rw [noex]; exact fun m => nomatch m)
        rw [new1] at z; cases z
    have npin : ∀ p ∈ X.pn ++ pins, p.1 ≠ a := fun p hp z => by
      have q := (J.pin p hp).1
      rw [z, new1] at q; cases q
    -- clause by clause
    suffices main : ∀ {hs : List ExceptHandler} {ls : List (Value × Option Nat × TS)}, Clauses X hs ls → wTry X.K Wout D ls cls d σ2 H2 → wpAny (model X.prog X.w) X.A (handleBy (.ref a) X.env hs) (SP X pins D) X.xe { s' with heap := h3 } from main cl wish
    intro hs ls ck
    have S3 : Inv (X.suite a (X.pn ++ pins)) [] σ2 H2 { s' with heap := h3 } := toSuite J3 a
    have look : ∀ {x : Str} {c : Value} {p1 : Pos} {Q : Value → Shared → Prop} {E : Value → Shared → Prop}, Names X x c → Q c { s' with heap := h3 } → wpAny (model X.prog X.w) (X.A.mark (some (.ref a))) (eval (.Name x p1) X.env) Q E { s' with heap := h3 } := fun hc q => by
      obtain ⟨g1, g2, g3 | ⟨g3, g4, g5⟩⟩ := hc
      · exact ld_glob S3 g1 g3 q g2
      · exact ld_blt S3 g1 g3 g4 q g5 g2
    have kind : PySem.W.Looks (model X.prog X.w) h3 (typeOf (.ref a)) cls := fun A Q E s k q => wpAny_typeOf_ref (k _ _ at3) (by rw [z3.1]; exact q)
    have fits : ∀ {c : Value} {b : Bool}, PySem.W.exmOne X.K cls c = some b → PySem.W.Looks (model X.prog X.w) h3 (excMatches (.ref a) c) b := fun e => PySem.W.exm_one J3.kIn kind e
    -- into a suite: what stands there
    have enter : ∀ {C dd : Addr} {Q : Shared → Prop} {E : Value → Shared → Prop} {A : Around}, cls = .ref C → d = some dd → (∀ s4, Inv (X.suite a (X.pn ++ pins)) [] σ2 (upd H2 a (.ext (excP a C dd))) s4 → Q s4) → wpAny (model X.prog X.w) A (setFlight (.ref a) none) (fun _ s4 => Q s4) E { s' with heap := h3 } := fun {C dd Q E A} e1 e2 q => by
      refine HandSPX.lands_againZ fly3 fun h4 fly4 up4 => q _ ?_
      have J4 : Inv X pins σ2 H2 { s' with heap := h4 } := J.landed ground fly4.1 (up3.trans up4) os bare
      obtain ⟨oe4, vs4, at4, z4, f4⟩ := fly4.there
      rw [e1, e2] at z4
      exact toSuite (Inv.track J4 at4 z4 ⟨_, f4⟩ na new0 nL npin) a
    induction ck with
    | nil =>
      intro w
      refine wpAny_handleBy_nil ?_
      obtain ⟨_, _, _, o5, vs5, T5, _, _, e5, _, d5, t5, _⟩ := id fly3
      unfold PySem.passOn
      refine wpAny_bind (wpAny_field e5 d5 t5 ?_)
      rw [if_neg (by simp)]
      have away : wpAny (model X.prog X.w) X.A (setFlight (.ref a) X.env.frame) (fun _ s4 => wpAny (model X.prog X.w) X.A (throw (.ref a) : Sem Flow) (SP X pins D) X.xe s4) X.xe { s' with heap := h3 } := by
        rw [fr]
        refine HandSPX.setFlight_upZ fly3 fun h4 held4 up4 => wpAny_throw (tk _ _ ⟨a, B, sI, pins, σ2, H2, cls, d, rfl, J, ground, up3.trans up4, .inr (.inr ?_), na, os, bare, w⟩)
        rw [stk]
        exact held4
      first
        | exact wpAny_bind (wpAny_pure (wpAny_bind away))
        | exact wpAny_bind away
    | @bare x c ts b0 bs p1 p2 hs2 l2 hc su more ih =>
      intro w
      obtain ⟨b, hb, hno, hyes⟩ := w
      refine wpAny_handleBy_cons (codeAny_handlers_test (look hc ((fits hb).here ?_))) (by intro q; cases q)
      cases b with
      | false => exact ih (hno rfl)
      | true =>
        obtain ⟨C, dd, e1, e2, hyes⟩ := hyes rfl
        refine codeAny_handlers_suite (enter e1 e2 fun s4 S4 => ?_)
        refine wpAny_mono ((su a (X.pn ++ pins)).run [] s4 _ _ _ S4 (hyes a na)) (fun fl s6 hf => ?_) fun _ _ z => False.elim z
        cases fl with
        | next => obtain ⟨σ6, H6, S6, q6⟩ := hf; exact ⟨_, _, ofSuite S6 ok, q6⟩
        | brk => obtain ⟨σ6, H6, S6, q6⟩ := hf; exact ⟨_, _, ofSuite S6 ok, q6⟩
        | cont => obtain ⟨σ6, H6, S6, q6⟩ := hf; exact ⟨_, _, ofSuite S6 ok, q6⟩
        | ret u => obtain ⟨v6, σ6, H6, S6, r6, q6⟩ := hf; exact ⟨_, _, _, ofSuite S6 ok, r6, q6⟩
    | @named x n i c ts b0 bs p1 p2 hs2 l2 hc hi hk su more ih =>
      intro w
      obtain ⟨b, hb, hno, hyes⟩ := w
      refine wpAny_handleBy_cons (codeAny_handlers_test (look hc ((fits hb).here ?_))) (by intro q; cases q)
      cases b with
      | false => exact ih (hno rfl)
      | true =>
        obtain ⟨C, dd, e1, e2, hyes⟩ := hyes rfl
        refine codeAny_handlers_suite_as (enter e1 e2 fun s4 S4 => ?_)
        refine store_ok (X := X.suite a (X.pn ++ pins)) (v := .ref a) S4 nd hi (.inl hk) rfl (fun s5 S5 => ?_) (.inr hk)
        refine wpAny_mono ((su a (X.pn ++ pins)).run [] s5 _ _ _ S5 (hyes a na)) (fun fl s6 hf => ?_) fun _ _ z => False.elim z
        have over : ∀ {σ6 : St} {H6 : Hp} {Q : Shared → Prop}, Inv (X.suite a (X.pn ++ pins)) [] σ6 H6 s6 → (∀ s7, Inv X pins (σ6.set i none) H6 s7 → Q s7) →
            wpAny (model X.prog X.w) X.A (do bindName X.env n .none; unbindBehindTheSuite X.env n p2) (fun _ s7 => Q s7) X.xe s6 := fun S6 q => gone_ok (ofSuite S6 ok) nd hi hk q
        cases fl with
        | next => obtain ⟨σ6, H6, S6, q6⟩ := hf; exact over S6 fun s7 J7 => ⟨_, _, J7, q6⟩
        | brk => obtain ⟨σ6, H6, S6, q6⟩ := hf; exact over S6 fun s7 J7 => ⟨_, _, J7, q6⟩
        | cont => obtain ⟨σ6, H6, S6, q6⟩ := hf; exact over S6 fun s7 J7 => ⟨_, _, J7, q6⟩
        | ret u => obtain ⟨v6, σ6, H6, S6, r6, q6⟩ := hf; exact over S6 fun s7 J7 => ⟨_, _, _, J7, r6, q6⟩
  · cases fl with
    | next => obtain ⟨σ1, H1, J1, q1⟩ := done; exact wpAny_execs_nil ⟨σ1, H1, J1.ofTry ok, q1⟩
    | brk => obtain ⟨σ1, H1, J1, q1⟩ := done; exact ⟨σ1, H1, J1.ofTry ok, q1⟩
    | cont => obtain ⟨σ1, H1, J1, q1⟩ := done; exact ⟨σ1, H1, J1.ofTry ok, q1⟩
    | ret u => obtain ⟨v1, σ1, H1, J1, r1, q1⟩ := done; exact ⟨v1, σ1, H1, J1.ofTry ok, r1, q1⟩
end
end L2.Iv

/-! IvR: further operations of the language: things read backwards. Own work. -/
namespace L2.Iv
open PySem PySem.Spec PyProof.Rows

section
variable {prog : Program} {w : World} {A : Around} {E : Value → Shared → Prop} {s : Shared}
theorem back_places (n : Nat) : Builtin.Slice.slicePlaces ((n : Int) - 1) (-1) (-1) = n := by
  unfold Builtin.Slice.slicePlaces
  rw [if_neg (by omega)]
  by_cases h : n = 0
  · subst h; rfl
  · rw [if_pos (by omega)]
    have : ((n : Int) - 1 - -1 - 1) / (- -1) + 1 = n := by
      rw [show (- -1 : Int) = 1 from rfl, Int.ediv_one]
      omega
    rw [this]; rfl
theorem fm_congr {α β : Type} {f g : α → Option β} : ∀ {l : List α}, (∀ x ∈ l, f x = g x) → l.filterMap f = l.filterMap g
  | [], _ => rfl
  | x :: l, h => by
    rw [List.filterMap_cons, List.filterMap_cons, h x List.mem_cons_self, fm_congr fun y hy => h y (List.mem_cons_of_mem _ hy)]
theorem back_pick (xs : Array Value) : ((List.range xs.size).filterMap fun (k : Nat) => xs[(((xs.size : Int) - 1) + (k : Int) * (-1)).toNat]?) = xs.toList.reverse := by
  have e : ∀ k ∈ List.range xs.size, xs[(((xs.size : Int) - 1) + (k : Int) * (-1)).toNat]? = (fun j => xs[j]?) (xs.size - 1 - k) := fun k hk => by
    rw [List.mem_range] at hk
    have : (((xs.size : Int) - 1) + (k : Int) * (-1)).toNat = xs.size - 1 - k := by omega
    rw [this]
  have e2 : ((List.range xs.size).filterMap fun (k : Nat) => xs[(((xs.size : Int) - 1) + (k : Int) * (-1)).toNat]?) = ((List.range xs.size).map fun k => xs.size - 1 - k).filterMap fun j => xs[j]? := by
    rw [List.filterMap_map]
    exact fm_congr e
  rw [e2, PySem.W.krv_range, List.filterMap_reverse, PySem.W.krv_all]
theorem slice_back {sl : Addr} {n : Nat} {v : Value} {Q : Int × Int × Nat → Shared → Prop} (hs : s.heap.IsSliceOf sl .none .none v) (ps : IsPart v (some (-1))) (h : Q ((n : Int) - 1, -1, n) s) : wpAny (model prog w) A (Builtin.Slice.sliceApplied (.ref sl) (pure (n : Int))) Q E s := by
  obtain ⟨o, ho, _, hd⟩ := id hs
  unfold Builtin.Slice.sliceApplied Builtin.Slice.sliceFields
  refine wpAny_bind (wpAny_bind (wpAny_field ho hd (x := .none) rfl (wpAny_bind (wpAny_field ho hd (x := .none) rfl (wpAny_bind (wpAny_field ho hd (x := v) rfl (wpAny_pure ?_)))))))
  refine wpAny_bind (HT.slicePart_ ps ?_)
  show wpAny _ _ (if ((-1 : Int) == 0) = true then _ else _) _ _ s
  rw [if_neg (by decide)]
  refine wpAny_bind (HT.slicePart_ .none (wpAny_bind (HT.slicePart_ .none (wpAny_bind (wpAny_pure ?_)))))
  show wpAny _ _ (pure (((n : Int) - 1), (-1 : Int), Builtin.Slice.slicePlaces ((n : Int) - 1) (-1) (-1))) _ _ s
  rw [back_places]
  exact wpAny_pure h
theorem getItem_back {t sl : Addr} {its : Array Value} {v : Value} {Q : Value → Shared → Prop} (ht : IsTup s.heap t its) (hs : s.heap.IsSliceOf sl .none .none v) (ps : IsPart v (some (-1)))
    (h : Q (.ref s.heap.objs.size) { s with heap := s.heap.push { cls := .type "tuple", data := .seq its.toList.reverse.toArray } }) (hz : its.size ≤ sizeLine) : wpAny (model prog w) A (getItem (.ref t) (.ref sl)) Q E s := by
  have room : sizeOk (.seq its.toList.reverse.toArray) := by
    show its.toList.reverse.toArray.size ≤ sizeLine
    rw [List.size_toArray, List.length_reverse, Array.length_toList]
    exact hz
  obtain ⟨o, ho, hc, _⟩ := id hs
  unfold getItem
  try with_reducible refine wpAny_holding ?_
  first | refine wpAny_bind (wpAny_pure ?_) | skip
  refine wpAny_bind (wpAny_sequenceKey ht.typeIs (by decide) ?_)
  refine wpAny_bind (wpAny_callSpecial?_slot (name := Str.ofString "__getitem__") ht.typeIs PyProof.Rows.slot_tuple_getitem (wpAny_call_entry PyProof.Rows.slot_tuple_getitem ht.typeIs entry_tuple_getitem ?_ (args_tuple_getitem _ _)))
  show wpAny (model prog w) _ (Builtin.Tuple.tupleItemsOf (Value.ref t) >>= _) _ _ _
  refine wpAny_bind (tupleItemsOf_ ht ?_)
  refine wpAny_bind (wpAny_typeOf ⟨o, ho, hc⟩ ?_)
  rw [if_pos (by decide)]
  refine wpAny_bind (slice_back hs ps ?_)
  show wpAny _ _ (if ((its.size : Int) - 1 == 0 && (-1 : Int) == 1 && its.size == its.size) = true then _ else _) _ _ s
  rw [if_neg (by rw [Bool.and_eq_true, Bool.and_eq_true]; exact fun z => absurd z.1.2 (by decide)), back_pick]
  first
    | exact wpAny_bind (m := Builtin.Tuple.tupleExact _) (wpAny_newObj_type (wpAny_pure ⟨_, rfl, wpAny_pure h⟩) room)
    | exact wpAny_bind (m := Builtin.Tuple.tupleExact _) (wpAny_newObj_type (wpAny_bind (wpAny_pure (wpAny_pure ⟨_, rfl, wpAny_pure h⟩))) room)
    | exact wpAny_bind (wpAny_bind (m := Builtin.Tuple.tupleExact _) (wpAny_newObj_type (wpAny_pure (wpAny_pure ⟨_, rfl, wpAny_pure h⟩)) room))
    | exact wpAny_bind (wpAny_bind (m := Builtin.Tuple.tupleExact _) (wpAny_newObj_type (wpAny_pure ⟨_, rfl, wpAny_pure h⟩) room))
/-! x[:0:-1] -/
theorem tail_places (n : Nat) : Builtin.Slice.slicePlaces ((n : Int) - 1) (min 0 ((n : Int) - 1)) (-1) = n - 1 := by
  unfold Builtin.Slice.slicePlaces
  rw [if_neg (by omega)]
  by_cases h : n = 0
  · subst h; rfl
  · rw [show min (0 : Int) ((n : Int) - 1) = 0 by omega]
    by_cases h1 : n = 1
    · subst h1; rfl
    · rw [if_pos (by omega)]
      have : ((n : Int) - 1 - 0 - 1) / (- -1) + 1 = (n : Int) - 1 := by
        rw [show (- -1 : Int) = 1 from rfl, Int.ediv_one]
        omega
      rw [this]; omega
theorem fm_total {α : Type} {f : Nat → Option α} : ∀ {m : Nat}, (∀ k < m, (f k).isSome = true) → ((List.range m).filterMap f).length = m ∧ ∀ k < m, ((List.range m).filterMap f)[k]? = f k
  | 0, _ => ⟨rfl, fun k h => absurd h (Nat.not_lt_zero _)⟩
  | m + 1, h => by
    obtain ⟨h1, h2⟩ := fm_total (m := m) fun k hk => h k (Nat.lt_succ_of_lt hk)
    obtain ⟨y, hy⟩ := Option.isSome_iff_exists.mp (h m (Nat.lt_succ_self m))
    have e : (List.range (m + 1)).filterMap f = (List.range m).filterMap f ++ [y] := by
      rw [List.range_succ, List.filterMap_append, List.filterMap_cons, hy]; rfl
    rw [e]
    refine ⟨by rw [List.length_append, h1]; rfl, fun k hk => ?_⟩
    by_cases hkm : k < m
    · rw [List.getElem?_append_left (by rw [h1]; exact hkm), h2 k hkm]
    · have : k = m := by omega
      subst this
      rw [List.getElem?_append_right (by rw [h1]; exact Nat.le_refl _), h1, Nat.sub_self, hy]; rfl
theorem tail_pick (xs : Array Value) : ((List.range (xs.size - 1)).filterMap fun (k : Nat) => xs[(((xs.size : Int) - 1) + (k : Int) * (-1)).toNat]?) = (xs.toList.drop 1).reverse := by
  have hx : ∀ k < xs.size - 1, xs[(((xs.size : Int) - 1) + (k : Int) * (-1)).toNat]? = xs.toList[xs.size - 1 - k]? := fun k hk => by
    have : (((xs.size : Int) - 1) + (k : Int) * (-1)).toNat = xs.size - 1 - k := by omega
    rw [this, Array.getElem?_toList]
  obtain ⟨h1, h2⟩ := fm_total (m := xs.size - 1) (f := fun (k : Nat) => xs[(((xs.size : Int) - 1) + (k : Int) * (-1)).toNat]?) fun k hk => by
    show (xs[(((xs.size : Int) - 1) + (k : Int) * (-1)).toNat]?).isSome = true
    rw [hx k hk, List.getElem?_eq_getElem (by rw [Array.length_toList]; omega)]; rfl
  apply List.ext_getElem?
  intro i
  by_cases hi : i < xs.size - 1
  · rw [h2 i hi, hx i hi, List.getElem?_reverse (by rw [List.length_drop, Array.length_toList]; exact hi), List.getElem?_drop, List.length_drop, Array.length_toList]
    congr 1
    omega
  · rw [List.getElem?_eq_none (by rw [h1]; omega), List.getElem?_eq_none (by rw [List.length_reverse, List.length_drop, Array.length_toList]; omega)]
theorem slice_tail {sl : Addr} {n : Nat} {u v : Value} {Q : Int × Int × Nat → Shared → Prop} (hs : s.heap.IsSliceOf sl .none u v) (pu : IsPart u (some 0)) (ps : IsPart v (some (-1))) (h : Q ((n : Int) - 1, -1, n - 1) s) : wpAny (model prog w) A (Builtin.Slice.sliceApplied (.ref sl) (pure (n : Int))) Q E s := by
  obtain ⟨o, ho, _, hd⟩ := id hs
  unfold Builtin.Slice.sliceApplied Builtin.Slice.sliceFields
  refine wpAny_bind (wpAny_bind (wpAny_field ho hd (x := .none) rfl (wpAny_bind (wpAny_field ho hd (x := u) rfl
    (wpAny_bind (wpAny_field ho hd (x := v) rfl (wpAny_pure ?_)))))))
  refine wpAny_bind (HT.slicePart_ ps ?_)
  show wpAny _ _ (if ((-1 : Int) == 0) = true then _ else _) _ _ s
  rw [if_neg (by decide)]
  refine wpAny_bind (HT.slicePart_ .none (wpAny_bind (HT.slicePart_ pu (wpAny_bind (wpAny_pure ?_)))))
  show wpAny _ _ (pure (((n : Int) - 1), (-1 : Int), Builtin.Slice.slicePlaces ((n : Int) - 1) (min 0 ((n : Int) - 1)) (-1))) _ _ s
  rw [tail_places]
  exact wpAny_pure h
theorem getItem_tail {t sl : Addr} {its : Array Value} {u v : Value} {Q : Value → Shared → Prop} (ht : IsTup s.heap t its) (hs : s.heap.IsSliceOf sl .none u v) (pu : IsPart u (some 0)) (ps : IsPart v (some (-1)))
    (h : Q (.ref s.heap.objs.size) { s with heap := s.heap.push { cls := .type "tuple", data := .seq (its.toList.drop 1).reverse.toArray } }) (hz : its.size ≤ sizeLine) : wpAny (model prog w) A (getItem (.ref t) (.ref sl)) Q E s := by
  have room : sizeOk (.seq (its.toList.drop 1).reverse.toArray) := by
    show (its.toList.drop 1).reverse.toArray.size ≤ sizeLine
    rw [List.size_toArray, List.length_reverse, List.length_drop, Array.length_toList]
    omega
  obtain ⟨o, ho, hc, _⟩ := id hs
  unfold getItem
  try with_reducible refine wpAny_holding ?_
  first | refine wpAny_bind (wpAny_pure ?_) | skip
  refine wpAny_bind (wpAny_sequenceKey ht.typeIs (by decide) ?_)
  refine wpAny_bind (wpAny_callSpecial?_slot (name := Str.ofString "__getitem__") ht.typeIs PyProof.Rows.slot_tuple_getitem (wpAny_call_entry PyProof.Rows.slot_tuple_getitem ht.typeIs entry_tuple_getitem ?_ (args_tuple_getitem _ _)))
  show wpAny (model prog w) _ (Builtin.Tuple.tupleItemsOf (Value.ref t) >>= _) _ _ _
  refine wpAny_bind (tupleItemsOf_ ht ?_)
  refine wpAny_bind (wpAny_typeOf ⟨o, ho, hc⟩ ?_)
  rw [if_pos (by decide)]
  refine wpAny_bind (slice_tail hs pu ps ?_)
  show wpAny _ _ (if ((its.size : Int) - 1 == 0 && (-1 : Int) == 1 && its.size - 1 == its.size) = true then _ else _) _ _ s
  rw [if_neg (by rw [Bool.and_eq_true, Bool.and_eq_true]; exact fun z => absurd z.1.2 (by decide)), tail_pick]
  first
    | exact wpAny_bind (m := Builtin.Tuple.tupleExact _) (wpAny_newObj_type (wpAny_pure ⟨_, rfl, wpAny_pure h⟩) room)
    | exact wpAny_bind (m := Builtin.Tuple.tupleExact _) (wpAny_newObj_type (wpAny_bind (wpAny_pure (wpAny_pure ⟨_, rfl, wpAny_pure h⟩))) room)
    | exact wpAny_bind (wpAny_bind (m := Builtin.Tuple.tupleExact _) (wpAny_newObj_type (wpAny_pure (wpAny_pure ⟨_, rfl, wpAny_pure h⟩)) room))
    | exact wpAny_bind (wpAny_bind (m := Builtin.Tuple.tupleExact _) (wpAny_newObj_type (wpAny_pure ⟨_, rfl, wpAny_pure h⟩) room))
end
/-- x[::-1], a list or a tuple -/
def tBack (K : PySem.W.Frag) (te : TE) : TE := fun σ H Q => te σ H fun x H1 => ∃ (a : Addr) (xs : List V), x = .ref a ∧
  ((SqL K H1 a xs ∧ ∀ p, H1 p = none → Q (.ref p) (upd H1 p (.lst xs.reverse))) ∨ (SqT K H1 a xs ∧ ∀ p, H1 p = none → Q (.ref p) (upd H1 p (.tup xs.reverse))))
section
variable {X : Cx}
theorem pe_back {e : Expr} {te : TE} {k : Nat} {p1 p2 p3 pos : Pos} (he : PE X e te) : PE X (.Subscript e (.Slice none none (some (.UnaryOp .USub (.Constant (.int 1) k p1) p2)) p3) pos) (tBack X.K te) := by
  refine ⟨fun pins s σ H Q I h => Subscript_ (thn (he.run pins s σ H _ I h) fun v s1 ⟨x, H1, I1, r1, q1⟩ => ?_)⟩
  obtain ⟨a, xs, rfl, q⟩ := q1
  cases r1
  have part : PO X (some (.UnaryOp .USub (.Constant (.int 1) k p1) p2)) (tPart (tUn (rU fun i => .int (-i)) (tC (.int 1)))) := po_some (pe_un un_neg pe_int)
  refine wpAny_Slice (thn (po_none.run pins s1 σ H1 (fun o H2 => o = none ∧ H2 = H1) I1 ⟨rfl, rfl⟩) fun v2 s2 ⟨o2, H2, I2, p2, e2, f2⟩ => ?_)
  subst e2 f2
  refine thn (po_none.run pins s2 σ H2 (fun o H3 => o = none ∧ H3 = H2) I2 ⟨rfl, rfl⟩) fun v3 s3 ⟨o3, H3, I3, p3, e3, f3⟩ => ?_
  subst e3 f3
  refine thn (part.run pins s3 σ H3 (fun o H4 => o = some (-1) ∧ H4 = H3) I3 ⟨1, rfl, -1, rfl, rfl, rfl⟩) fun v4 s4 ⟨o4, H4, I4, p4, e4, f4⟩ => ?_
  subst e4 f4
  have I5 : Inv X pins σ H4 { s4 with heap := s4.heap.push { cls := .type "slice", data := .fields #[v2, v3, v4] } } := I4.kept (t' := s4.toks) fun b ob q => Heap.get?_push_of_some _ q
  cases p2
  cases p3
  rcases q with ⟨hx, q⟩ | ⟨hx, q⟩
  · obtain ⟨its, r, ht, hz⟩ := I5.list hx
    have hlen := r.length
    refine tail_any (ops := [.ref a, .ref s4.heap.objs.size]) ht.isList.typeIs (PySem.slot_list_getitem.lookup) ?_ (by with_unfolding_all rfl)
    refine wpAny_getItem_list_slice ht.isList (Heap.IsSliceOf.new _ .none .none v4) .none .none p4 (by decide) ?_ (by rw [List.size_toArray]; omega)
    rw [PySem.W.krv_pick]
    refine ⟨.ref _, _, I5.laid (t' := s4.toks) (o := .lst xs.reverse) (fun b ob q => Heap.get?_push_of_some _ q) (Nat.le_refl _) ?_, rfl, q _ (I5.hok.fresh (Nat.le_refl _))⟩
    exact ⟨by rw [List.length_reverse]; exact hz, _, 0, r.reverse, Heap.get?_push_size _ rfl⟩
  · obtain ⟨its, r, ht, hz⟩ := I5.tuple hx
    have hlen := r.length
    refine tail_any (ops := [.ref a, .ref s4.heap.objs.size]) ht.typeIs (PyProof.Rows.slot_tuple_getitem.lookup) ?_ (by with_unfolding_all rfl)
    refine getItem_back ht (Heap.IsSliceOf.new _ .none .none v4) p4 ?_ (by rw [List.size_toArray]; omega)
    refine ⟨.ref _, _, I5.laid (t' := s4.toks) (o := .tup xs.reverse) (fun b ob q => Heap.get?_push_of_some _ q) (Nat.le_refl _) ?_, rfl, q _ (I5.hok.fresh (Nat.le_refl _))⟩
    exact ⟨by rw [List.length_reverse]; exact hz, _, r.reverse, _, Heap.get?_push_size _ rfl, rfl, 0, rfl⟩
/-- x[:0:-1], a tuple -/
theorem pe_tail {e : Expr} {te : TE} {k k0 : Nat} {p0 p1 p2 p3 pos : Pos} (he : PE X e te) : PE X (.Subscript e (.Slice none (some (.Constant (.int 0) k0 p0)) (some (.UnaryOp .USub (.Constant (.int 1) k p1) p2)) p3) pos)
    (fun σ H Q => te σ H fun x H1 => ∃ (a : Addr) (xs : List V), x = .ref a ∧ SqT X.K H1 a xs ∧ ∀ p, H1 p = none → Q (.ref p) (upd H1 p (.tup (xs.drop 1).reverse))) := by
  refine ⟨fun pins s σ H Q I h => Subscript_ (thn (he.run pins s σ H _ I h) fun v s1 ⟨x, H1, I1, r1, q1⟩ => ?_)⟩
  obtain ⟨a, xs, rfl, hx, q⟩ := q1
  cases r1
  have part : PO X (some (.UnaryOp .USub (.Constant (.int 1) k p1) p2)) (tPart (tUn (rU fun i => .int (-i)) (tC (.int 1)))) := po_some (pe_un un_neg pe_int)
  have zero : PO X (some (.Constant (.int 0) k0 p0)) (tPart (tC (.int 0))) := po_some pe_int
  refine wpAny_Slice (thn (po_none.run pins s1 σ H1 (fun o H2 => o = none ∧ H2 = H1) I1 ⟨rfl, rfl⟩) fun v2 s2 ⟨o2, H2, I2, p2, e2, f2⟩ => ?_)
  subst e2 f2
  refine thn (zero.run pins s2 σ H2 (fun o H3 => o = some 0 ∧ H3 = H2) I2 ⟨0, rfl, rfl, rfl⟩) fun v3 s3 ⟨o3, H3, I3, p3, e3, f3⟩ => ?_
  subst e3 f3
  refine thn (part.run pins s3 σ H3 (fun o H4 => o = some (-1) ∧ H4 = H3) I3 ⟨1, rfl, -1, rfl, rfl, rfl⟩) fun v4 s4 ⟨o4, H4, I4, p4, e4, f4⟩ => ?_
  subst e4 f4
  have I5 : Inv X pins σ H4 { s4 with heap := s4.heap.push { cls := .type "slice", data := .fields #[v2, v3, v4] } } := I4.kept (t' := s4.toks) fun b ob q => Heap.get?_push_of_some _ q
  cases p2
  obtain ⟨its, r, ht, hz⟩ := I5.tuple hx
  have hlen := r.length
  refine tail_any (ops := [.ref a, .ref s4.heap.objs.size]) ht.typeIs (PyProof.Rows.slot_tuple_getitem.lookup) ?_ (by with_unfolding_all rfl)
  refine getItem_tail ht (Heap.IsSliceOf.new _ .none v3 v4) p3 p4 ?_ (by rw [List.size_toArray]; omega)
  refine ⟨.ref _, _, I5.laid (t' := s4.toks) (o := .tup (xs.drop 1).reverse) (fun b ob q => Heap.get?_push_of_some _ q) (Nat.le_refl _) ?_, rfl, q _ (I5.hok.fresh (Nat.le_refl _))⟩
  exact ⟨by rw [List.length_reverse, List.length_drop]; omega, _, (r.drop 1).reverse, _, Heap.get?_push_size _ rfl, rfl, 0, rfl⟩
end
end L2.Iv

/-! IvS: sorted of a dict whose keys are ints. Own work. -/
namespace L2
open PySem PySem.Spec PyProof.Rows PySem.Calls SrtO
section
variable {prog : Program} {w : World} {A : Around} {E : Value → Shared → Prop} {s : Shared}
theorem items_at {P : Nat → Value → Prop} {acc : Array Value} {n : Nat} (h : ItemsOf P acc n) : acc.toList.length = n ∧ ∀ j v, acc.toList[j]? = some v → P j v :=
  ⟨by rw [Array.length_toList]; exact h.1, fun j v e => h.2 j v (by rw [← Array.getElem?_toList]; exact e)⟩
theorem ints_at : ∀ {vs : List Value} {ns : List Int}, vs.length = ns.length → (∀ (j : Nat) (v : Value) (i : Int), vs[j]? = some v → ns[j]? = some i → ∃ t, v = Value.int i t) → IntsAre vs ns
  | [], [], _, _ => .nil
  | [], _ :: _, h, _ => by cases h
  | _ :: _, [], h, _ => by cases h
  | v :: vs, n :: ns, h, q => by
    obtain ⟨t, rfl⟩ := q 0 v n rfl rfl
    exact .cons n t (ints_at (Nat.succ.inj h) fun j v i a b => q (j + 1) v i a b)
/-- what is drawn from a dict into a new list, and that the list is new -/
theorem drawn_dict {d : Addr} {m : Nat} {P : Nat → Value → Prop} {OK : Heap → Prop} {R : List Value → Shared → Prop} (L : PySem.W.KdlSrc prog w "dict" d d m P OK) (calm : A.handled = none) (ok : OK s.heap) (few : m ≤ sizeLine)
    (go : ∀ (g : Heap) (tk : Nat) (xs : Array Value), (∀ b o, s.heap.get? b = some o → g.get? b = some o) → s.heap.objs.size < g.objs.size → ItemsOf P xs m → R xs.toList { s with heap := g, toks := tk }) :
    wpAny (model prog w) A (collect (.ref d)) R E s := by
  have ld := L.there _ ok
  unfold collect
  refine wpAny_bind (wpAny_runValue
    (codeAny_builtin entry_proto_collect' ?_))
  rw [Around.under_plainId
    PySem.F.plain_proto_collect _]
  show wpAny _ A.in1 (newList [] >>= fun z => again (.builtin "list.__iadd__" ⟨[z, .ref d], []⟩)) _ _ s
  refine wpAny_bind (wpAny_newObj_type ?_)
  refine wpAny_pure ⟨plainId_quiet PySem.F.plain_list_iadd _,
    codeAny_builtin entry_list_iadd' ?_⟩
  rw [Around.under_plainId
    PySem.F.plain_list_iadd _]
  have at0 : (s.heap.push { cls := .type "list", data := .seq ([] : List Value).toArray }).get? s.heap.objs.size = some { cls := .type "list", data := .seq #[] } :=
    Heap.get?_push_size _ rfl
  show wpAny _ A.in1 (Builtin.List.listExtendWith (.ref s.heap.objs.size) (.ref d)
    (.ref s.heap.objs.size)) _ _ _
  have run := PySem.W.kdl_extend (A := A) (s := { s with heap := s.heap.push { cls := .type "list", data := .seq ([] : List Value).toArray } })
    (R := fun (q : Result) (z : Shared) => ∃ (g : Heap) (tk : Nat) (xs : Array Value) (c : Nat), q = .ok (.ret (.ref s.heap.objs.size)) ∧ z = { s with heap := g, toks := tk } ∧
      (∀ b o, s.heap.get? b = some o → g.get? b = some o) ∧ g.get? s.heap.objs.size = some { cls := .type "list", dict := none, data := .seq xs c, slots := #[] } ∧ ItemsOf P xs m)
    L calm (L.keep _ _ ok fun b _ o e => Heap.get?_push_of_some _ e) s.heap.objs.size (Nat.ne_of_gt ld.1) (Nat.ne_of_gt ld.2) (.ref s.heap.objs.size) 0 at0
    (fun g tk xs c k1 k2 k3 => ⟨g, tk, xs, c, rfl, rfl, fun b o e => k1 b o (Nat.ne_of_lt (Heap.lt_size e)) (Heap.get?_push_of_some _ e), k2, k3⟩) few
  refine wpAny_mono run (fun fin z y => ?_) fun e z y => ?_
  · cases fin with
    | done f =>
      obtain ⟨g, tk, xs, c, e, rfl, k1, k2, k3⟩ := y
      cases e
      show wpAny _ A (load s.heap.objs.size >>= _) _ _ _
      exact wpAny_bind (wpAny_load k2 (wpAny_pure (go g tk xs k1 (Heap.lt_size k2) k3)))
    | again c₁ =>
      refine ⟨y.1, codeAny_mono y.2 fun q z₂ y2 => ?_⟩
      obtain ⟨g, tk, xs, c, rfl, rfl, k1, k2, k3⟩ := y2
      show wpAny _ A (load s.heap.objs.size >>= _) _ _ _
      exact wpAny_bind (wpAny_load k2 (wpAny_pure (go g tk xs k1 (Heap.lt_size k2) k3)))
  · obtain ⟨_, _, _, _, z, _⟩ := y
    cases z
/-- sorted(d): the keys, ints -/
theorem sorted_dict {d : Addr} {kvs : List (Key × Value)} {ns : List Int} {Q : Value → Shared → Prop} (hh : A.handled = none) (lo : (d == sysModules) = false) (hD : s.heap.DictOf (mixKind prog w) d kvs) (hz : kvs.length ≤ sizeLine) (hk : kvs.map (·.1) = ns.map Sum.inl)
    (h : ∀ (h' : Heap) (tk : Nat) (p : Addr) (out : List Value) (ns' : List Int) (e : Nat), (∀ b o, s.heap.get? b = some o → h'.get? b = some o) → s.heap.objs.size ≤ p → h'.get? p = some (seqObj "list" out.toArray e) → IntsAre out ns' → ns'.Perm ns → ns'.Pairwise (· ≤ ·) → Q (.ref p) { s with heap := h', toks := tk }) :
    wpAny (model prog w) A (call (.builtin "sorted") [.ref d]) Q E s := by
  obtain ⟨ep, hat⟩ := hD.dictAt
  refine call_function_entry kind_sorted plain_sorted entry_sorted (args_sorted1 _) ?_
  unfold Builtin.«sorted»
  refine wpAny_bind (m := checkCount "sorted" 1 1 _) (wpAny_pure ?_)
  refine wpAny_bind (drawn_dict (A := A.in1) (PySem.W.kdl_dict (knd := mixKind prog w) (kvs := kvs) (ep := ep) lo) hh hat hz fun h' tk acc hkp hbig hacc => ?_)
  obtain ⟨hl, hv⟩ := items_at hacc
  refine wpAny_bind (wpAny_newList ?_ (by rw [hl]; exact hz))
  have hI : IntsAre acc.toList ns := ints_at (by rw [hl]; have := congrArg List.length hk; simpa using this) fun j v i e1 e2 => by
    obtain ⟨k, x, e3, e4⟩ := hv j v e1
    have e5 : (kvs.map (·.1))[j]? = some k := by rw [List.getElem?_map, e3]; rfl
    rw [hk, List.getElem?_map, e2] at e5
    cases e5
    rcases keyIs_shape (show keyIs (.inl i) v = true from e4) with ⟨i', t, z, e⟩ | ⟨x', t, z, e⟩
    · cases z; exact ⟨t, e⟩
    · cases z
  have hoL : (h'.push (seqObj "list" acc.toList.toArray 0)).get? h'.objs.size = some (seqObj "list" acc.toList.toArray 0) := Heap.get?_push_size _ rfl
  show wpAny _ _ _ _ _ { s with heap := h'.push (seqObj "list" acc.toList.toArray 0), toks := tk }
  refine wpAny_bind (wpAny_holding (wpAny_call_entry slot_list_sort ⟨_, hoL, rfl⟩ entry_list_sort (list_sort_ord swo_int hoL (by rw [hl]; exact hz) (fun h2 => ints_sortable hI h2) fun out hs hb => ⟨_, rfl, ?_⟩) (args_list_sort _)))
  refine wpAny_pure ⟨_, rfl, ?_⟩
  obtain ⟨k1, k2, k3⟩ := ints_out hI hs hb
  have hlt : ∀ b o, s.heap.get? b = some o → b < h'.objs.size := fun b o q => Heap.lt_size (hkp b o q)
  obtain ⟨e, he⟩ := sortedHeap_at (vs := acc.toList) (out := out.toArray) hoL
  refine h _ tk _ out (out.map iv) e (fun b o q => ?_) (Nat.le_of_lt hbig) he k1 k2 k3
  rw [sortedHeap_old (Nat.ne_of_lt (hlt b o q)) (by rw [size_push']; exact Nat.lt_succ_of_lt (hlt b o q)), Heap.get?_push_ne _ _ _ (Nat.ne_of_lt (hlt b o q))]
  exact hkp b o q
end
end L2
namespace L2
open PySem PySem.Spec PyProof.Rows
/-- sorted(d), the keys ints -/
def rSortedD : List V → Hp → VK → Prop := fun vs H Q => ∃ (a : Addr) (kvs : List (Key × V)) (ns : List Int), vs = [V.ref a] ∧ H a = some (.dK kvs) ∧ kvs.map (·.1) = ns.map Sum.inl ∧
  ∀ (ns' : List Int) (p : Addr), ns'.Perm ns → ns'.Pairwise (· ≤ ·) → H p = none → Q (.ref p) (upd H p (.lst (ns'.map V.int)))
theorem kv_keys {κ : Type} : ∀ {kvs : List (κ × V)} {vs : List (κ × Value)}, KV kvs vs → vs.map (·.1) = kvs.map (·.1)
  | _, _, .nil => rfl
  | _, _, .cons h q => by
    rw [List.map_cons, List.map_cons, kv_keys q, h.1]
section
variable {X : Cx}
theorem cr_sortedD (hc : X.calm = true) : CallR X (.builtin "sorted") rSortedD := by
  intro pins s σ H vs us Q I r h
  obtain ⟨a, kvs, ns, rfl, ha, hk, q⟩ := h
  obtain ⟨z, lo, ws, rel, dd⟩ := dk_of I.hok ha
  rw [Vals.ref1 r]
  refine sorted_dict (I.ok.hd hc) lo dd (by rw [← rel.length]; exact z) (by rw [kv_keys rel, hk]) fun h' tk p out ns' e k hp hg hi hperm hs => ?_
  have hlen : (ns'.map V.int).length ≤ sizeLine := by
    have h1 := congrArg List.length hk
    rw [List.length_map, List.length_map] at h1
    rw [List.length_map, hperm.length_eq, ← h1]
    exact z
  exact ⟨.ref p, upd H p (.lst (ns'.map V.int)), I.laid (t' := tk) k hp ⟨hlen, out, e, vals_of_ints hi, hg⟩, rfl, q ns' p hperm hs (I.hok.fresh hp)⟩
end
end L2
namespace L2.Iv
open PySem PySem.Spec PyProof.Rows
/-! ### ints in ascending sequence, each once -/
theorem insD_mem (n : Int) : ∀ (l : List Int) (x : Int), x ∈ insD n l ↔ x = n ∨ x ∈ l
  | [], x => by simp [insD]
  | m :: r, x => by
    unfold insD
    split
    · simp
    · split
      · rename_i h; subst h; simp
      · rw [List.mem_cons, insD_mem n r x, List.mem_cons]
        constructor
        · rintro (h | h | h)
          · exact .inr (.inl h)
          · exact .inl h
          · exact .inr (.inr h)
        · rintro (h | h | h)
          · exact .inr (.inl h)
          · exact .inl h
          · exact .inr (.inr h)
theorem insD_sorted (n : Int) : ∀ (l : List Int), l.Pairwise (· < ·) → (insD n l).Pairwise (· < ·)
  | [], _ => by simp [insD]
  | m :: r, h => by
    obtain ⟨h1, h2⟩ := List.pairwise_cons.mp h
    unfold insD
    split
    · rename_i z
      refine List.pairwise_cons.mpr ⟨fun x hx => ?_, h⟩
      rcases List.mem_cons.mp hx with rfl | hx
      · exact z
      · exact Int.lt_trans z (h1 x hx)
    · split
      · exact h
      · refine List.pairwise_cons.mpr ⟨fun x hx => ?_, insD_sorted n r h2⟩
        rcases (insD_mem n r x).mp hx with rfl | hx
        · omega
        · exact h1 x hx
theorem foldD_mem : ∀ (ns a : List Int) (x : Int), x ∈ ns.foldl (fun a n => insD n a) a ↔ x ∈ a ∨ x ∈ ns
  | [], a, x => by simp
  | n :: ns, a, x => by
    rw [List.foldl_cons, foldD_mem ns, insD_mem, List.mem_cons]
    constructor
    · rintro ((h | h) | h)
      · exact .inr (.inl h)
      · exact .inl h
      · exact .inr (.inr h)
    · rintro (h | h | h)
      · exact .inl (.inr h)
      · exact .inl (.inl h)
      · exact .inr h
theorem foldD_sorted : ∀ (ns a : List Int), a.Pairwise (· < ·) → (ns.foldl (fun a n => insD n a) a).Pairwise (· < ·)
  | [], a, h => h
  | n :: ns, a, h => by rw [List.foldl_cons]; exact foldD_sorted ns _ (insD_sorted n a h)
theorem sortD_mem (ns : List Int) (x : Int) : x ∈ sortD ns ↔ x ∈ ns := by rw [sortD, foldD_mem]; simp
theorem sortD_sorted (ns : List Int) : (sortD ns).Pairwise (· < ·) := foldD_sorted ns [] (by simp)
theorem srt_uniq : ∀ {a b : List Int}, a.Pairwise (· < ·) → b.Pairwise (· < ·) → (∀ x, x ∈ a ↔ x ∈ b) → a = b
  | [], [], _, _, _ => rfl
  | [], y :: b, _, _, h => absurd ((h y).mpr List.mem_cons_self) (by simp)
  | x :: a, [], _, _, h => absurd ((h x).mp List.mem_cons_self) (by simp)
  | x :: a, y :: b, ha, hb, h => by
    obtain ⟨a1, a2⟩ := List.pairwise_cons.mp ha
    obtain ⟨b1, b2⟩ := List.pairwise_cons.mp hb
    have e : x = y := by
      rcases List.mem_cons.mp ((h x).mp List.mem_cons_self) with e | e
      · exact e
      · rcases List.mem_cons.mp ((h y).mpr List.mem_cons_self) with e2 | e2
        · exact e2.symm
        · have := b1 x e; have := a1 y e2; omega
    subst e
    refine congrArg (x :: ·) (srt_uniq a2 b2 fun z => ⟨fun hz => ?_, fun hz => ?_⟩)
    · rcases List.mem_cons.mp ((h z).mp (List.mem_cons_of_mem _ hz)) with e | e
      · subst e; exact absurd (a1 z hz) (by omega)
      · exact e
    · rcases List.mem_cons.mp ((h z).mpr (List.mem_cons_of_mem _ hz)) with e | e
      · subst e; exact absurd (b1 z hz) (by omega)
      · exact e
theorem srt_of {ks ns ns' : List Int} (nd : ks.Nodup) (hm : ∀ x, x ∈ ks ↔ x ∈ ns) (hp : ns'.Perm ks) (hs : ns'.Pairwise (· ≤ ·)) : ns' = sortD ns := by
  refine srt_uniq ?_ (sortD_sorted ns) fun x => by rw [hp.mem_iff, hm, sortD_mem]
  have nd' : ns'.Nodup := hp.nodup_iff.mpr nd
  have := List.Pairwise.and hs nd'
  exact this.imp fun {x y} h => by have := h.1; have := h.2; omega
/-- a key more -/
theorem keys_put {kvs : List (Key × V)} {ks : List Int} {i : Int} {v : V} (h : kvs.map (·.1) = ks.map Sum.inl) (nd : ks.Nodup) :
    ∃ ks' : List Int, (putK kvs (.inl i) v).map (·.1) = ks'.map Sum.inl ∧ ks'.Nodup ∧ (∀ x, x ∈ ks' ↔ x ∈ ks ∨ x = i) := by
  have hin : (Sum.inl i : Key) ∈ kvs.map (·.1) ↔ i ∈ ks := by
    rw [h, List.mem_map]
    exact ⟨fun ⟨j, hj, e⟩ => by cases e; exact hj, fun hi => ⟨i, hi, rfl⟩⟩
  by_cases hi : i ∈ ks
  · refine ⟨ks, ?_, nd, fun x => ⟨.inl, fun hx => by rcases hx with hx | rfl; exact hx; exact hi⟩⟩
    have ha : (kvs.any fun kv => decide (kv.1 = Sum.inl i)) = true := by
      obtain ⟨p, hp, e⟩ := List.mem_map.mp (hin.mpr hi)
      exact List.any_eq_true.mpr ⟨p, hp, decide_eq_true e⟩
    unfold putK
    rw [if_pos ha, List.map_map, ← h]
    refine List.map_congr_left fun p _ => ?_
    show (if p.1 = Sum.inl i then (p.1, v) else p).1 = p.1
    split <;> rfl
  · refine ⟨ks ++ [i], ?_, ?_, fun x => by simp⟩
    · have ha : ¬ (kvs.any fun kv => decide (kv.1 = Sum.inl i)) = true := fun hz => by
        obtain ⟨p, hp, e⟩ := List.any_eq_true.mp hz
        exact hi (hin.mp (List.mem_map.mpr ⟨p, hp, of_decide_eq_true e⟩))
      unfold putK
      rw [if_neg ha, List.map_append, List.map_append, h]; rfl
    · rw [List.nodup_append]
      exact ⟨nd, by simp, fun x hx y hy => by rw [List.mem_singleton] at hy; subst hy; rintro rfl; exact hi hx⟩
end L2.Iv

/-! IvD: calls, what the program's text must be for a piece of the language, what stands around. Own work. -/
namespace L2.Iv
open PySem PySem.Spec PyProof.Rows

/-! ### a def's promise, where no repr is running -/
structure FnG (P : Program) (w : World) (K : PySem.W.Frag) (mg : Str → Option Value) (base : Heap) (n : Nat) (f : Addr) (fd : FuncData) (ps : List Str) (sp : List V → Hp → VK → XK → Prop) : Prop where
  len : ∀ vs H Q E, sp vs H Q E → vs.length = ps.length
  run : ∀ (A : Around) (outer : List PySem.Env) (s : Shared) (H : Hp) (args : Args) (us : List Value) (vs : List V) (Q : VK) (E : XK),
    Room (n + 2) A → A.guards = some [] → Env0 P w K mg base A outer s H → BindsTo s fd args (ps.zip us) → Vals vs us → sp vs H Q E →
      codeAny (model P w) A (.call (.ref f) args) (CR (L2.CX P w) outer P w H s Q E) s
section
variable {X : Cx} {n : Nat} {f : Addr} {fd : FuncData} {ps : List Str} {sp : List V → Hp → VK → XK → Prop} {W : WX}
/-- what is wished of an error here, as a wish of a call -/
def xAt (W : WX) (σ : St) : XK := fun cls d H' => W cls d σ H'
theorem run_G {pins : List (Addr × Obj)} {σ : St} {H : Hp} {s : Shared} {Q : VK} {args : Args} {us : List Value} {vs : List V} (G : FnG X.prog X.w X.K X.mg X.base n f fd ps sp) (C : Cal X (n + 2) false) (hT : Takes X W)
    (I : Inv X pins σ H s) (hb : BindsTo s fd args (ps.zip us)) (r : Vals vs us) (h : sp vs H Q (xAt W σ)) : codeAny (model X.prog X.w) X.A (.call (.ref f) args) (fun r s' => match r with
      | .ok (.ret u) => EP X pins σ Q u s'
      | .ok _ => False
      | .error e => X.xe e s') s := by
  refine codeAny_mono (G.run X.A X.stack s H args us vs Q (xAt W σ) (C.room rfl) C.gd I.env0 hb r h) fun r s' hq => ?_
  cases r with
  | error e => exact hT e s' (XE.of_call I (fun cls d H' z => z) hq)
  | ok fl =>
    cases fl with
    | ret u => exact I.after hq
    | next => exact False.elim hq
    | brk => exact False.elim hq
    | cont => exact False.elim hq
theorem run_G2 {pins : List (Addr × Obj)} {σ : St} {H : Hp} {s : Shared} {Q : VK} {us0 : List Value} {kw : List (Str × Value)} {us : List Value} {vs : List V} (G : FnG X.prog X.w X.K X.mg X.base n f fd ps sp) (C : Cal X (n + 2) false) (hT : Takes X W)
    (I : Inv X pins σ H s) (hb : BindsTo s fd ⟨us0, kw⟩ (ps.zip us)) (r : Vals vs us) (h : sp vs H Q (xAt W σ)) : wpAny (model X.prog X.w) X.A (call (.ref f) us0 kw) (EP X pins σ Q) X.xe s := by
  refine wpAny_call (codeAny_mono (run_G G C hT I hb r h) fun r s' hq => ?_)
  cases r with
  | error e => exact hq
  | ok fl =>
    cases fl with
    | ret u => exact hq
    | next => exact False.elim hq
    | brk => exact False.elim hq
    | cont => exact False.elim hq
/-- a def of the module called, its arguments by place -/
theorem pe_cG {x : Str} {e : Expr} {es : List Expr} {p pos : Pos} {t : TA} (G : FnG X.prog X.w X.K X.mg X.base n f fd ps sp) (C : Cal X (n + 2) false) (hT : Takes X W) (hg : Gl X x) (hm : X.mg x = some (.ref f)) (hk : PySem.W.keepIn X.K (.ref f) = true)
    (hb : ∀ (s : Shared) (us : List Value), us.length = ps.length → BindsTo s fd ⟨us, []⟩ (ps.zip us)) (ha : PA X (e :: es) t) (hdb : (x == ("__debug__" : Str)) = false)
    (he : starEach (e :: es) X.env = (false, eval e X.env) :: starEach es X.env) (hpl : (backTo pos (starEach es X.env)).any (·.1) = false) :
    PE X (.Call (.Name x p) (e :: es) [] pos) (fun σ H Q => t σ H fun vs H1 => sp vs H1 Q (xAt W σ)) := by
  refine ⟨fun pins s σ H Q I h => ?_⟩
  refine wpAny_Call_Name_kw (ld_glob I hg hm ?_ hdb)
  refine PySem.W.callWith_K (h₀ := X.base) I.ok.mod.kin hk (thn (ha.run pos pins s σ H _ I h) fun us s1 ⟨vs, H1, I1, r, q⟩ => ⟨I1.kIn, ?_⟩) he hpl
  exact run_G2 G C hT I1 (hb s1 us (by rw [← r.length]; exact G.len _ _ _ _ q)) r q
/-- .. by name too -/
theorem pe_cGk {x : Str} {e : Expr} {es : List Expr} {kws : List Keyword} {p pos : Pos} {t tk : TA} {ks : List Str} {g : List Value → List Value → List Value} {gV : List V → List V → List V}
    (G : FnG X.prog X.w X.K X.mg X.base n f fd ps sp) (C : Cal X (n + 2) false) (hT : Takes X W) (hg : Gl X x) (hm : X.mg x = some (.ref f)) (hk : PySem.W.keepIn X.K (.ref f) = true)
    (hb : ∀ (s : Shared) (us ws : List Value), (g us ws).length = ps.length → ws.length = ks.length → us.length = (e :: es).length → BindsTo s fd ⟨us, ks.zip ws⟩ (ps.zip (g us ws)))
    (rel : ∀ {vs us zs ws}, Vals vs us → Vals zs ws → Vals (gV vs zs) (g us ws))
    (ha : PA X (e :: es) t) (hkw : PK X kws tk) (hdb : (x == ("__debug__" : Str)) = false)
    (hall : (backToKw pos (keywordEach kws X.env)).all (·.1.isSome) = true) (hks : (backToKw pos (keywordEach kws X.env)).filterMap (·.1) = ks)
    (he : starEach (e :: es) X.env = (false, eval e X.env) :: starEach es X.env)
    (hpl : ((backTo pos (starEach (e :: es) X.env)).any (·.1) || (backToKw pos (keywordEach kws X.env)).any (·.1.isNone)) = false) :
    PE X (.Call (.Name x p) (e :: es) kws pos) (fun σ H Q => t σ H fun vs H1 => vs.length = (e :: es).length ∧ tk σ H1 fun zs H2 => zs.length = ks.length ∧ sp (gV vs zs) H2 Q (xAt W σ)) := by
  refine ⟨fun pins s σ H Q I h => ?_⟩
  refine wpAny_Call_Name_kw (ld_glob I hg hm ?_ hdb)
  refine PySem.W.callWith_KW (h₀ := X.base) I.ok.mod.kin hk hall (thn (ha.run pos pins s σ H _ I h) fun us s1 ⟨vs, H1, I1, r, l1, q⟩ => ?_) hpl he
  refine thn (hkw.run pos pins s1 σ H1 _ I1 q) fun ws s2 ⟨zs, H2, I2, rz, l2, q2⟩ => ⟨I2.kIn, ?_⟩
  rw [hks]
  have r3 := rel r rz
  exact run_G2 G C hT I2 (hb s2 us ws (by rw [← r3.length]; exact G.len _ _ _ _ q2) (by rw [← rz.length]; exact l2) (by rw [← r.length]; exact l1)) r3 q2
/-- .. by name alone -/
theorem pe_cGk0 {x : Str} {kws : List Keyword} {p pos : Pos} {tk : TA} {ks : List Str} {g : List Value → List Value → List Value} {gV : List V → List V → List V}
    (G : FnG X.prog X.w X.K X.mg X.base n f fd ps sp) (C : Cal X (n + 2) false) (hT : Takes X W) (hg : Gl X x) (hm : X.mg x = some (.ref f)) (hk : PySem.W.keepIn X.K (.ref f) = true)
    (hb : ∀ (s : Shared) (us ws : List Value), (g us ws).length = ps.length → ws.length = ks.length → us.length = 0 → BindsTo s fd ⟨us, ks.zip ws⟩ (ps.zip (g us ws)))
    (rel : ∀ {vs us zs ws}, Vals vs us → Vals zs ws → Vals (gV vs zs) (g us ws))
    (hkw : PK X kws tk) (hdb : (x == ("__debug__" : Str)) = false)
    (hall : (backToKw pos (keywordEach kws X.env)).all (·.1.isSome) = true) (hks : (backToKw pos (keywordEach kws X.env)).filterMap (·.1) = ks)
    (hpl : ((backTo pos (starEach [] X.env)).any (·.1) || (backToKw pos (keywordEach kws X.env)).any (·.1.isNone)) = false) :
    PE X (.Call (.Name x p) [] kws pos) (fun σ H Q => tk σ H fun zs H2 => zs.length = ks.length ∧ sp (gV [] zs) H2 Q (xAt W σ)) := by
  refine ⟨fun pins s σ H Q I h => ?_⟩
  refine wpAny_Call_Name_kw (ld_glob I hg hm ?_ hdb)
  refine PySem.W.callWith_KW0 (h₀ := X.base) I.ok.mod.kin hk hall (thn (hkw.run pos pins s σ H _ I h) fun ws s2 ⟨zs, H2, I2, rz, l2, q2⟩ => ⟨I2.kIn, ?_⟩) hpl
  rw [hks]
  have r3 := rel (vs := []) (us := []) .nil rz
  exact run_G2 G C hT I2 (hb s2 [] ws (by rw [← r3.length]; exact G.len _ _ _ _ q2) (by rw [← rz.length]; exact l2) rfl) r3 q2
end

/-! ### the program -/
/-- the defs, the constants of the module, the built-ins whose names are free, the calls by name: (def, names, how many by place, for each parameter its place among the written ones) -/
structure Sg where
  tb : List (Str × Fn)
  gl : List (Str × PV)
  bs : List Str
  kcs : List (Str × List Str × Nat × List Nat)
  /-- the error classes, each with those that it is one of -/
  ecs : List (Str × List Str)
  /-- in an except suite -/
  hot : Bool
def Sg.heat (g : Sg) : Sg := { g with hot := true }
noncomputable def Sg.ctx (g : Sg) (cl : Str → Nat) (n : Nat) : Ctx := ⟨callF cl g.ecs g.tb (fun x => g.gl.lookup x) n, fun x => g.gl.lookup x, cl, g.ecs⟩
def clOf (mg : Str → Option Value) (c : Str) : Nat := match mg c with
  | some (.ref C) => C
  | _ => 0
theorem clOf_eq {mg : Str → Option Value} {c : Str} {C : Addr} (h : mg c = some (.ref C)) : clOf mg c = C := by unfold clOf; rw [h]
/-- an error as the machine has it: an object of the class, its dict holds the value -/
def sw (mg : Str → Option Value) (W : WX) : SW := fun σ c v H' => ∀ C dd, mg c = some (.ref C) → H' dd = none → W (.ref C) (some dd) σ (upd H' dd (.xd [("value", v)]))
def xw (mg : Str → Option Value) (E : XK) : EW := fun c v H' => ∀ C dd, mg c = some (.ref C) → H' dd = none → E (.ref C) (some dd) (upd H' dd (.xd [("value", v)]))
def spI (K : PySem.W.Frag) (mg : Str → Option Value) (g : Sg) (n : Nat) (f : Str) : List V → Hp → VK → XK → Prop := fun vs H Q E => ∃ F r st ps, Rel K F H r st ∧ Reps K F H r vs ps ∧ Post K F (xw mg E) r H Q ((g.ctx (clOf mg) n).fn f ps st)
/-- an own class, or ValueError, as a value -/
inductive ExN (mg : Str → Option Value) (g : Sg) (x : Str) : V → Value → Prop
  | own {l : List Str} {D : Addr} : g.ecs.lookup x = some l → mg x = some (.ref D) → ExN mg g x (.ref D) (.ref D)
  | ve : x = ("ValueError" : Str) → mg x = none → ExN mg g x (.ty "ValueError") (.type "ValueError")
/-- self and value: what __init__ of an error does -/
def spInit (K : PySem.W.Frag) : Sp := fun vs H Q E => ∃ (a C : Addr) (v : V), vs = [.ref a, v] ∧ OexC K C ∧ PySem.W.findIn K (.ref C) "value" = some none ∧ H a = some (exo a C none) ∧
  ∀ dx, H dx = none → dx ≠ a → Q .non (upd (upd H dx (exd dx [("value", v)])) a (exo a C (some dx)))
/-- a class of errors: how it is made, what it is one of -/
structure EcF (P : Program) (w : World) (K : PySem.W.Frag) (mg : Str → Option Value) (base : Heap) (g : Sg) (c : Str) (anc : List Str) (C : Addr) : Prop where
  mgc : mg c = some (.ref C)
  ox : OexC K C
  kit : KitC K C
  nn : PySem.W.kitOne K (.type "NoneType") (.ref C) = some false
  isa : ∀ x cv u, ExN mg g x cv u → PySem.W.kitOne K (.ref C) u = some (decide (x ∈ anc)) ∧ PySem.W.exmOne K (.ref C) u = some (decide (x ∈ anc))
  made : ∃ fI fd, PySem.W.findIn K (.ref C) "__init__" = some (some (.ref fI)) ∧ PySem.W.typeIn K (.ref fI) = some (.type "function") ∧ FnOk P w K mg base CX0 1 fI fd ["self", "value"] (spInit K) ∧ Binds K fd ["self", "value"] []
structure Link (P : Program) (w : World) (K : PySem.W.Frag) (mg : Str → Option Value) (base : Heap) (g : Sg) (n : Nat) : Prop where
  fn : ∀ f fn, g.tb.lookup f = some fn → ∃ a fd, mg f = some (.ref a) ∧ PySem.W.keepIn K (.ref a) = true ∧ FnG P w K mg base n a fd fn.ps (spI K mg g n f) ∧
    (∀ (s : Shared) (us : List Value), us.length = fn.ps.length → BindsTo s fd ⟨us, []⟩ (fn.ps.zip us)) ∧
    ∀ ks np perm, (f, ks, np, perm) ∈ g.kcs → ∀ (s : Shared) (us ws : List Value), us.length = np → ws.length = ks.length → BindsTo s fd ⟨us, ks.zip ws⟩ (fn.ps.zip (perm.map fun i => (us ++ ws).getD i .none))
  gl : ∀ x p, g.gl.lookup x = some p → ∃ u v, mg x = some u ∧ RelV v u ∧ ∀ F H r, Rep K F H r v p
  bs : ∀ x, x ∈ g.bs → mg x = none
  ec : ∀ c anc, g.ecs.lookup c = some anc → ∃ C, EcF P w K mg base g c anc C
/-- where a piece of the language stands: sc the scope that runs, so as it is written -/
structure Std (X : Cx) (g : Sg) (n : Nat) (N : List Str) (sc so : Scope) (W : WX) : Prop where
  cal : Cal X (n + 2) g.hot
  link : Link X.prog X.w X.K X.mg X.base g n
  eN : X.N = N
  nd : N.Nodup
  eS : X.env.scope = sc
  so : ∀ x, (so.names.lookup x = some .local ∨ so.names.lookup x = some .cell) → Loc sc x ∧ (X.fn x = true ∨ sc.names.lookup x = some .local)
  tk : Takes X W

/-! ### the text -/
/-- the forms that the language has -/
def okS : Expr → Bool
  | .BoolOp .. => true
  | .BinOp .. => true
  | .UnaryOp .. => true
  | .IfExp .. => true
  | .ListComp .. => true
  | .Compare .. => true
  | .Call .. => true
  | .Constant .. => true
  | .Subscript .. => true
  | .Name .. => true
  | .List .. => true
  | .Tuple .. => true
  | .Attribute .. => true
  | _ => false
def isLC : Expr → Bool
  | .ListComp .. => true
  | _ => false
theorem okS_star {e : Expr} (h : okS e = true) (es : List Expr) (env : PySem.Env) : starEach (e :: es) env = (false, eval e env) :: starEach es env := by
  cases e <;> first | rfl | cases h
theorem okS_ix {e : Expr} (h : okS e = true) : PlainIx e := by
  cases e <;> first | exact fun _ _ => rfl | cases h
theorem okS_set {e : Expr} (h : okS e = true) (env : PySem.Env) (x : Value) : foldedSetIterable e env x = pure x := by
  cases e <;> first | rfl | cases h
theorem okS_sw {e : Expr} (h : okS e = true) (h2 : isLC e = false) (t : Option Expr) (l : Nat) (env : PySem.Env) : swapsWith e t l env = pure false := by
  cases e <;> first | rfl | exact Bool.noConfusion h | exact Bool.noConfusion h2
theorem okS_in {e : Expr} (h : okS e = true) (op : CmpOp) : behindInMarks op e = false := by
  cases e <;> first | rfl | cases h
theorem okS_aug {e : Expr} (h : okS e = true) (ov iv new : Value) : augStore e ov iv new = (do holding [new, ov, iv] (setItem ov iv new); release [new, ov, iv] []; pure .next) := by
  cases e <;> first | rfl | cases h
theorem okS_asg {i : Expr} (h : okS i = true) (o : Expr) (pos : Pos) (env : PySem.Env) (v : Value) : assign (.Subscript o i pos) env v = (do
      let ov ← holding [v] (eval o env)
      let iv ← holding [v, ov] (eval i env)
      standAt pos
      holding [v, ov, iv] (setItem ov iv v)
      release [v, ov, iv] []) := by
  cases i <;> first | rfl | cases h
theorem okS_any {es : List Expr} (h : es.all okS = true) (pos : Pos) (env : PySem.Env) : (backTo pos (starEach es env)).any (·.1) = false := by
  induction es with
  | nil => rfl
  | cons e es ih =>
    simp only [List.all_cons, Bool.and_eq_true] at h
    rw [okS_star h.1]
    show (false || (backTo pos (starEach es env)).any (·.1)) = false
    rw [ih h.2, Bool.or_false]
def cstOk : PV → Const → Bool
  | .non, .none => true
  | .bl b, .bool c => b == c
  | .int i, .int j => i == j
  | .str s, .str t => s == t
  | _, _ => false
def vis (sc : Scope) (x : Str) : Bool := match sc.names.lookup x with
  | some .local => true
  | some .cell => true
  | some .free => true
  | _ => false
def loc (sc : Scope) (x : Str) : Bool := match sc.names.lookup x with
  | some .local => true
  | some .cell => true
  | _ => false
def glb (sc : Scope) (x : Str) : Bool := (match sc.names.lookup x with
  | some .globalImplicit => true
  | _ => false) && !(x == ("__debug__" : Str))
theorem vis_of {sc : Scope} {x : Str} (h : vis sc x = true) : Vis sc x := by
  unfold vis at h
  split at h
  · exact .inl (by assumption)
  · exact .inr (.inl (by assumption))
  · exact .inr (.inr (by assumption))
  · cases h
theorem loc_of {sc : Scope} {x : Str} (h : loc sc x = true) : sc.names.lookup x = some .local ∨ sc.names.lookup x = some .cell := by
  unfold loc at h
  split at h
  · exact .inl (by assumption)
  · exact .inr (by assumption)
  · cases h
theorem glb_of {sc : Scope} {x : Str} (h : glb sc x = true) : sc.names.lookup x = some .globalImplicit ∧ (x == ("__debug__" : Str)) = false := by
  unfold glb at h
  simp only [Bool.and_eq_true, Bool.not_eq_true'] at h
  refine ⟨?_, h.2⟩
  have := h.1
  split at this
  · assumption
  · cases this
def nmOk (N : List Str) (sc : Scope) (i : Nat) (x : Str) : Bool := decide (N[i]? = some x) && vis sc x && !(x == ("__debug__" : Str)) && !(x == ("__classdict__" : Str))
def ownL (N : List Str) (own : List Nat) : List (Str × Nat) := own.map fun i => (N.getD i "", i)
/-- a target, in the written scope so -/
def chkP (N : List Str) (so : Scope) : Pt → Expr → Bool
  | .n i, .Name x _ => decide (N[i]? = some x) && loc so x
  | .t2 a b, .Tuple [x, y] _ _ => chkP N so a x && chkP N so b y
  | .t3 a b c, .Tuple [x, y, z] _ _ => chkP N so a x && chkP N so b y && chkP N so c z
  | .t4 a b c d, .Tuple [x, y, z, u] _ _ => chkP N so a x && chkP N so b y && chkP N so c z && chkP N so d u
  | .t5 a b c d e, .Tuple [x, y, z, u, v] _ _ => chkP N so a x && chkP N so b y && chkP N so c z && chkP N so d u && chkP N so e v
  | _, _ => false
def tyNames : List String := ["int", "bool", "str", "tuple", "list"]
def kwNames : List Keyword → List Str
  | [] => []
  | ⟨some k, _, _⟩ :: r => k :: kwNames r
  | ⟨none, _, _⟩ :: r => kwNames r
def isTgT : Expr → Bool
  | .Tuple .. => true
  | _ => false
def needsT : Ix → Bool
  | .zip .. => true
  | .enm .. => true
  | _ => false
/-- a class of errors that is named -/
def excOk (g : Sg) (c : Str) : Bool := (g.ecs.lookup c).isSome || (decide (c = ("ValueError" : Str)) && decide (c ∈ g.bs))
mutual
def chkE (g : Sg) (N : List Str) (sc : Scope) : Ex → Expr → Bool
  | .c v, .Constant k _ _ => cstOk v k
  | .v i, .Name x _ => nmOk N sc i x
  | .g y, .Name x _ => decide (x = y) && glb sc x && (g.gl.lookup x).isSome
  | .bin o _ a b, .BinOp ea op eb _ => decide (op = opB o) && chkE g N sc a ea && chkE g N sc b eb
  | .neg a, .UnaryOp .USub ea _ => chkE g N sc a ea
  | .nt a, .UnaryOp .Not ea _ => chkE g N sc a ea
  | .cmp o a b, .Compare ea [op] [eb] _ => decide (op = opC o) && chkE g N sc a ea && chkE g N sc b eb
  | .chn o o2 a b c, .Compare ea [op, op2] [eb, ec] _ => decide (op = opC o) && decide (op2 = opC o2) && chkE g N sc a ea && chkE g N sc b eb && chkE g N sc c ec
  | .ands es, .BoolOp .And ees _ => decide (2 ≤ ees.length) && chkEs g N sc es ees
  | .ors es, .BoolOp .Or ees _ => decide (2 ≤ ees.length) && chkEs g N sc es ees
  | .ite c a b, .IfExp ec ea eb _ => chkE g N sc c ec && chkE g N sc a ea && chkE g N sc b eb
  | .tup es, .Tuple ees _ _ => chkEs g N sc es ees
  | .lst _ es, .List ees _ => chkEs g N sc es ees
  | .ix a b, .Subscript ea eb _ => chkE g N sc a ea && chkE g N sc b eb
  | .slA _ a lo hi, .Subscript ea (.Slice (some el) (some eh) none _) _ => chkE g N sc a ea && chkE g N sc lo el && chkE g N sc hi eh
  | .slF _ a lo, .Subscript ea (.Slice (some el) none none _) _ => chkE g N sc a ea && chkE g N sc lo el
  | .slT _ a hi, .Subscript ea (.Slice none (some eh) none _) _ => chkE g N sc a ea && chkE g N sc hi eh
  | .slR _ a, .Subscript ea (.Slice none none (some (.UnaryOp .USub (.Constant (.int 1) _ _) _)) _) _ => chkE g N sc a ea
  | .slN _ a, .Subscript ea (.Slice none (some (.Constant (.int 0) _ _)) (some (.UnaryOp .USub (.Constant (.int 1) _ _) _)) _) _ => chkE g N sc a ea
  | .srt _ own p it e, .Call (.Name x _) [.DictComp kx (.Constant (.bool true) _ _) [⟨tg, iter, [], 0⟩] scope _] [] _ => !g.hot && (decide (x = ("sorted" : Str)) && glb sc x && decide (x ∈ g.bs) && blkC N sc scope (ownL N own) && chkI g N sc it iter && okS iter && (!needsT it || isTgT tg) && decide (∀ i ∈ p.slots, i ∈ own) && chkP N scope p tg && chkE g N (relS scope sc) e kx)
  | .call f es, .Call (.Name x _) (a :: ees) [] _ => !g.hot && (decide (x = f) && glb sc x && (g.tb.lookup f).isSome && chkEs g N sc es (a :: ees))
  | .callk f es ks perm, .Call (.Name x _) ees kws _ => !g.hot && (decide (x = f) && glb sc x && (g.tb.lookup f).isSome && kws.all (fun k => k.arg.isSome) && !kws.isEmpty && decide ((f, kwNames kws, ees.length, perm) ∈ g.kcs) && chkEs g N sc es ees && chkEs g N sc ks (kws.map (·.value)))
  | .bi f _ es, .Call (.Name x _) (a :: ees) [] _ => (!g.hot || coolBi f) && (decide (x = biName f) && glb sc x && decide (x ∈ g.bs) && chkEs g N sc es (a :: ees))
  | .isi e T, .Call (.Name x _) [ee, .Name t _] [] _ => decide (x = ("isinstance" : Str)) && glb sc x && decide (x ∈ g.bs) && decide (t = Str.ofString T) && glb sc t && decide (t ∈ g.bs) && decide (T ∈ tyNames) && chkE g N sc e ee
  | .fld i, .Attribute (.Name x _) y _ => nmOk N sc i x && decide (y = ("value" : Str))
  | .ise e c, .Call (.Name x _) [ee, .Name t _] [] _ => decide (x = ("isinstance" : Str)) && glb sc x && decide (x ∈ g.bs) && decide (t = c) && glb sc t && excOk g c && chkE g N sc e ee
  | .me m i es, .Call (.Attribute (.Name y _) x apos) ees [] cpos => nmOk N sc i y && decide (x = meName m) && (apos.endLine == cpos.line) && decide (ees.length ≤ 1) && chkEs g N sc es ees
  | .lc _ own p it cs e, .ListComp elt [⟨tg, iter, ifs, 0⟩] scope _ => !g.hot && (blkC N sc scope (ownL N own) && chkI g N sc it iter && okS iter && (!needsT it || isTgT tg) && decide (∀ i ∈ p.slots, i ∈ own) && chkP N scope p tg && decide (ifs.length ≤ 1) && chkEs g N (relS scope sc) cs ifs && chkE g N (relS scope sc) e elt)
  | .lc2 _ own p it cs vs2 p2 it2 cs2 e, .ListComp elt [⟨tg, iter, ifs, 0⟩, ⟨tg2, iter2, ifs2, 0⟩] scope _ => !g.hot && (blkC N sc scope (ownL N own) && chkI g N sc it iter && okS iter && (!needsT it || isTgT tg) && decide (∀ i ∈ p.slots, i ∈ own) && chkP N scope p tg && decide (ifs.length ≤ 1) && chkEs g N (relS scope sc) cs ifs &&
      decide (∀ i ∈ vs2, i ∈ own) && chkI g N (relS scope sc) it2 iter2 && okS iter2 && (!needsT it2 || isTgT tg2) && decide (∀ i ∈ p2.slots, i ∈ vs2) && chkP N scope p2 tg2 && decide (ifs2.length ≤ 1) && chkEs g N (relS scope sc) cs2 ifs2 && chkE g N (relS scope sc) e elt)
  | _, _ => false
def chkEs (g : Sg) (N : List Str) (sc : Scope) : Exs → List Expr → Bool
  | .nil, [] => true
  | .cons e es, ee :: ees => okS ee && chkE g N sc e ee && chkEs g N sc es ees
  | _, _ => false
def chkI (g : Sg) (N : List Str) (sc : Scope) : Ix → Expr → Bool
  | .rng1 a, .Call (.Name x _) [ea] [] _ => decide (x = ("range" : Str)) && glb sc x && decide (x ∈ g.bs) && okS ea && chkE g N sc a ea
  | .rng2 a b, .Call (.Name x _) [ea, eb] [] _ => decide (x = ("range" : Str)) && glb sc x && decide (x ∈ g.bs) && okS ea && okS eb && chkE g N sc a ea && chkE g N sc b eb
  | .rng3 a b c, .Call (.Name x _) [ea, eb, .UnaryOp .USub (.Constant (.int k) _ _) _] [] _ => decide (x = ("range" : Str)) && glb sc x && decide (x ∈ g.bs) && okS ea && okS eb && decide (c = -k) && chkE g N sc a ea && chkE g N sc b eb
  | .zip a b, .Call (.Name x _) [ea, eb] [] _ => decide (x = ("zip" : Str)) && glb sc x && decide (x ∈ g.bs) && okS ea && okS eb && chkE g N sc a ea && chkE g N sc b eb
  | .enm a, .Call (.Name x _) [ea] [] _ => decide (x = ("enumerate" : Str)) && glb sc x && decide (x ∈ g.bs) && okS ea && chkE g N sc a ea
  | .val e, ee => okS ee && chkE g N sc e ee
  | _, _ => false
end
end L2.Iv

/-! IvE: targets, what a loop walks, comprehensions: readings. Own work. -/
namespace L2.Iv
open PySem PySem.Spec PyProof.Rows

section
variable {K : PySem.W.Frag} {F F2 : List Addr} {H H' : Hp} {r r' : List Addr} {st : Store} {v : V} {p : PV} {vs : List V} {ps : List PV} {env : Env} {σ : St}
/-- later on, what is shut may have changed -/
structure AftF (F : List Addr) (r : List Addr) (H : Hp) (r' : List Addr) (H' : Hp) : Prop where
  pre : ∃ r2, r' = r ++ r2
  keep : ∀ a o, H a = some o → a ∉ r → a ∉ F → H' a = some o ∧ a ∉ r'
theorem Aft.toF (A : Aft r H r' H') : AftF F r H r' H' := ⟨A.pre, fun a o e n _ => A.keep a o e n⟩
theorem AftF.trans {r1 r2 : List Addr} {H1 H2 : Hp} (a : AftF F r H r1 H1) (b : AftF F r1 H1 r2 H2) : AftF F r H r2 H2 := by
  obtain ⟨x, e1⟩ := a.pre
  obtain ⟨y, e2⟩ := b.pre
  refine ⟨⟨x ++ y, by rw [e2, e1, List.append_assoc]⟩, fun c o e n m => ?_⟩
  obtain ⟨q1, q2⟩ := a.keep c o e n m
  exact b.keep c o q1 q2 m
theorem AftF.get {i : Nat} {a : Addr} (x : AftF F r H r' H') (e : r[i]? = some a) : r'[i]? = some a := by
  obtain ⟨y, e1⟩ := x.pre
  rw [e1, List.getElem?_append_left (List.getElem?_eq_some_iff.mp e).1]
  exact e
theorem AftF.less (A : AftF F2 r H r' H') (h : ∀ b ∈ F2, b ∈ F) : AftF F r H r' H' := ⟨A.pre, fun a o e n m => A.keep a o e n fun z => m (h a z)⟩
theorem Rel.notF (R : Rel K F H r st) {a : Addr} {o : HO} (h : H a = some o) (n : ∀ vs, o ≠ .lst vs) : a ∉ F := fun m => by
  obtain ⟨vs, e⟩ := R.fs a m
  rw [h] at e; cases e; exact n vs rfl
theorem SqT.aftF {a : Addr} (R : Rel K F H r st) (A : AftF F r H r' H') (h : SqT K H a vs) : SqT K H' a vs := by
  rcases h with (h | ⟨o, h⟩) | h
  · exact .inl (.inl (A.keep a _ h (R.notin h (fun _ z => nomatch z)) (R.notF h (fun _ z => nomatch z))).1)
  · exact .inl (.inr ⟨o, (A.keep a _ h (R.notin h (fun _ z => nomatch z)) (R.notF h (fun _ z => nomatch z))).1⟩)
  · exact .inr h
/-- later on, with more that is shut -/
theorem SqF.aft2 {a : Addr} (R : Rel K F H r st) (A : AftF F r H r' H') (hF : ∀ b ∈ F2, b ∈ F ∨ H b = none) (h : SqF K F H r a vs) : SqF K F2 H' r' a vs := by
  rcases h with ⟨h, n1, n2⟩ | ⟨o, h⟩ | h
  · refine .inl ⟨(A.keep a _ h n1 n2).1, (A.keep a _ h n1 n2).2, fun m => ?_⟩
    rcases hF a m with z | z
    · exact n2 z
    · rw [h] at z; cases z
  · exact .inr (.inl ⟨o, (A.keep a _ h (R.notin h (fun _ z => nomatch z)) (R.notF h (fun _ z => nomatch z))).1⟩)
  · exact .inr (.inr h)
mutual
theorem Rep.aft2 (R : Rel K F H r st) (A : AftF F r H r' H') (hF : ∀ b ∈ F2, b ∈ F ∨ H b = none) : ∀ {v : V} {p : PV}, Rep K F H r v p → Rep K F2 H' r' v p
  | _, _, .non => .non
  | _, _, .bl b => .bl b
  | _, _, .int i => .int i
  | _, _, .str x => .str x
  | _, _, .lsv h q => .lsv (h.aft2 R A hF) (Reps.aft2 R A hF q)
  | _, _, .tup h q => .tup (SqT.aftF R A h) (Reps.aft2 R A hF q)
  | _, _, .loc e => .loc (A.get e)
  | _, _, .exn h1 h2 q => .exn (A.keep _ _ h1 (R.notin h1 (fun _ z => nomatch z)) (R.notF h1 (fun _ z => nomatch z))).1 (A.keep _ _ h2 (R.notin h2 (fun _ z => nomatch z)) (R.notF h2 (fun _ z => nomatch z))).1 (Rep.aft2 R A hF q)
theorem Reps.aft2 (R : Rel K F H r st) (A : AftF F r H r' H') (hF : ∀ b ∈ F2, b ∈ F ∨ H b = none) : ∀ {vs : List V} {ps : List PV}, Reps K F H r vs ps → Reps K F2 H' r' vs ps
  | _, _, .nil => .nil
  | _, _, .cons h q => .cons (Rep.aft2 R A hF h) (Reps.aft2 R A hF q)
end
theorem EnvRel.aft2 (R : Rel K F H r st) (A : AftF F r H r' H') (hF : ∀ b ∈ F2, b ∈ F ∨ H b = none) (e : EnvRel K F H r env σ) : EnvRel K F2 H' r' env σ :=
  ⟨e.len, fun i p h => let ⟨v, h1, h2⟩ := e.get i p h; ⟨v, h1, h2.aft2 R A hF⟩⟩
/-- less is shut -/
theorem SqF.less {a : Addr} (hF : ∀ b ∈ F2, b ∈ F) (h : SqF K F H r a vs) : SqF K F2 H r a vs := by
  rcases h with ⟨h, n1, n2⟩ | h | h
  · exact .inl ⟨h, n1, fun m => n2 (hF a m)⟩
  · exact .inr (.inl h)
  · exact .inr (.inr h)
mutual
theorem Rep.less (hF : ∀ b ∈ F2, b ∈ F) : ∀ {v : V} {p : PV}, Rep K F H r v p → Rep K F2 H r v p
  | _, _, .non => .non
  | _, _, .bl b => .bl b
  | _, _, .int i => .int i
  | _, _, .str x => .str x
  | _, _, .lsv h q => .lsv (h.less hF) (Reps.less hF q)
  | _, _, .tup h q => .tup h (Reps.less hF q)
  | _, _, .loc e => .loc e
  | _, _, .exn h1 h2 q => .exn h1 h2 (Rep.less hF q)
theorem Reps.less (hF : ∀ b ∈ F2, b ∈ F) : ∀ {vs : List V} {ps : List PV}, Reps K F H r vs ps → Reps K F2 H r vs ps
  | _, _, .nil => .nil
  | _, _, .cons h q => .cons (Rep.less hF h) (Reps.less hF q)
end
theorem Rel.less (R : Rel K F H r st) (hF : ∀ b ∈ F2, b ∈ F) : Rel K F2 H r st :=
  ⟨R.len, R.nd, fun i a xs e1 e2 => let ⟨vs, h1, h2⟩ := R.cells i a xs e1 e2; ⟨vs, h1, h2.less hF⟩, fun a ha m => R.apart a ha (hF a m), fun a ha => R.fs a (hF a ha)⟩
theorem EnvRel.less (e : EnvRel K F H r env σ) (hF : ∀ b ∈ F2, b ∈ F) : EnvRel K F2 H r env σ :=
  ⟨e.len, fun i p h => let ⟨v, h1, h2⟩ := e.get i p h; ⟨v, h1, h2.less hF⟩⟩
/-- a new list that is shut while it grows -/
theorem Rel.shut (R : Rel K F H r st) {D : Addr} (h : H D = none) : Rel K (D :: F) (upd H D (.lst [])) r st := by
  have hF : ∀ b ∈ D :: F, b ∈ F ∨ H b = none := fun b hb => by
    rcases List.mem_cons.mp hb with rfl | hb
    · exact .inr h
    · exact .inl hb
  refine ⟨R.len, R.nd, fun i a xs e1 e2 => ?_, fun a ha m => ?_, fun a ha => ?_⟩
  · obtain ⟨vs, h1, h2⟩ := R.cells i a xs e1 e2
    exact ⟨vs, by rw [upd_ne (ne_of_none h1 h)]; exact h1, h2.aft2 R (Aft.toF (.new h)) hF⟩
  · rcases List.mem_cons.mp m with rfl | m
    · exact (R.fresh h).1 ha
    · exact R.apart a ha m
  · rcases List.mem_cons.mp ha with rfl | ha
    · exact ⟨[], upd_same⟩
    · obtain ⟨vs, e⟩ := R.fs a ha
      exact ⟨vs, by rw [upd_ne (ne_of_none e h)]; exact e⟩
/-- what is shut is written -/
theorem SqF.wr {a D : Addr} {o : HO} {ws : List V} (hD : D ∈ F) (hl : H D = some (.lst ws)) (h : SqF K F H r a vs) : SqF K F (upd H D o) r a vs := by
  rcases h with ⟨h, n1, n2⟩ | ⟨u, h⟩ | h
  · exact .inl ⟨by rw [upd_ne (by rintro rfl; exact n2 hD)]; exact h, n1, n2⟩
  · exact .inr (.inl ⟨u, by rw [upd_ne (by rintro rfl; rw [hl] at h; cases h)]; exact h⟩)
  · exact .inr (.inr h)
theorem SqT.wr {a D : Addr} {o : HO} {ws : List V} (hl : H D = some (.lst ws)) (h : SqT K H a vs) : SqT K (upd H D o) a vs := by
  rcases h with (h | ⟨u, h⟩) | h
  · exact .inl (.inl (by rw [upd_ne (by rintro rfl; rw [hl] at h; cases h)]; exact h))
  · exact .inl (.inr ⟨u, by rw [upd_ne (by rintro rfl; rw [hl] at h; cases h)]; exact h⟩)
  · exact .inr h
mutual
theorem Rep.wr {D : Addr} {o : HO} {ws : List V} (hD : D ∈ F) (hl : H D = some (.lst ws)) : ∀ {v : V} {p : PV}, Rep K F H r v p → Rep K F (upd H D o) r v p
  | _, _, .non => .non
  | _, _, .bl b => .bl b
  | _, _, .int i => .int i
  | _, _, .str x => .str x
  | _, _, .lsv h q => .lsv (h.wr hD hl) (Reps.wr hD hl q)
  | _, _, .tup h q => .tup (SqT.wr hl h) (Reps.wr hD hl q)
  | _, _, .loc e => .loc e
  | _, _, .exn h1 h2 q => .exn (by rw [upd_ne (by rintro rfl; rw [hl] at h1; cases h1)]; exact h1) (by rw [upd_ne (by rintro rfl; rw [hl] at h2; cases h2)]; exact h2) (Rep.wr hD hl q)
theorem Reps.wr {D : Addr} {o : HO} {ws : List V} (hD : D ∈ F) (hl : H D = some (.lst ws)) : ∀ {vs : List V} {ps : List PV}, Reps K F H r vs ps → Reps K F (upd H D o) r vs ps
  | _, _, .nil => .nil
  | _, _, .cons h q => .cons (Rep.wr hD hl h) (Reps.wr hD hl q)
end
theorem Rel.wr (R : Rel K F H r st) {D : Addr} {ws us : List V} (hD : D ∈ F) (hl : H D = some (.lst ws)) : Rel K F (upd H D (.lst us)) r st := by
  refine ⟨R.len, R.nd, fun i a xs e1 e2 => ?_, R.apart, fun a ha => ?_⟩
  · obtain ⟨vs, h1, h2⟩ := R.cells i a xs e1 e2
    have ne : a ≠ D := by
      rintro rfl
      exact R.apart _ (List.mem_of_getElem? e1) hD
    exact ⟨vs, by rw [upd_ne ne]; exact h1, h2.wr hD hl⟩
  · by_cases ne : a = D
    · subst ne; exact ⟨us, upd_same⟩
    · obtain ⟨vs, e⟩ := R.fs a ha
      exact ⟨vs, by rw [upd_ne ne]; exact e⟩
theorem EnvRel.wr {D : Addr} {ws us : List V} (e : EnvRel K F H r env σ) (hD : D ∈ F) (hl : H D = some (.lst ws)) : EnvRel K F (upd H D (.lst us)) r env σ :=
  ⟨e.len, fun i p h => let ⟨v, h1, h2⟩ := e.get i p h; ⟨v, h1, h2.wr hD hl⟩⟩
end

/-! ### targets -/
theorem wipe_set_in (σ : St) (x : Option V) : ∀ (vs : List Nat) (i : Nat), i ∈ vs → wipe (σ.set i x) vs = wipe σ vs
  | [], _, h => by cases h
  | v :: vs, i, h => by
    have comm : ∀ (ws : List Nat) (τ : St), wipe (τ.set i x) ws = wipe τ ws ∨ wipe (τ.set i x) ws = (wipe τ ws).set i x := by
      intro ws
      induction ws with
      | nil => intro τ; exact .inr rfl
      | cons a ws ih =>
        intro τ
        show (wipe (τ.set i x) ws).set a none = (wipe τ ws).set a none ∨ (wipe (τ.set i x) ws).set a none = ((wipe τ ws).set a none).set i x
        rcases ih τ with e | e
        · rw [e]; exact .inl rfl
        · rw [e]
          by_cases ha : a = i
          · subst ha; rw [List.set_set]; exact .inl rfl
          · exact .inr (List.set_comm _ _ (Ne.symm ha))
    show (wipe (σ.set i x) vs).set v none = (wipe σ vs).set v none
    by_cases hv : v = i
    · subst hv
      rcases comm vs σ with e | e
      · rw [e]
      · rw [e, List.set_set]
    · have hi : i ∈ vs := by
        rcases List.mem_cons.mp h with e | h
        · exact absurd e.symm hv
        · exact h
      rw [wipe_set_in σ x vs i hi]
def gI (K : PySem.W.Frag) (F : List Addr) (p : Pt) : TG := fun v σ H Q => ∃ r st env q env', Rel K F H r st ∧ EnvRel K F H r env σ ∧ Rep K F H r v q ∧ asgP p q env = some env' ∧
  ∀ σ', EnvRel K F H r env' σ' → (∀ vs : List Nat, (∀ i ∈ p.slots, i ∈ vs) → wipe σ' vs = wipe σ vs) → Q σ' H
theorem PG.imp {X : Cx} {e : Expr} {t t' : TG} (h : PG X e t) (i : ∀ v σ H Q, t' v σ H Q → t v σ H Q) : PG X e t' := ⟨fun pins s σ H v u Q I r q => h.run pins s σ H v u Q I r (i _ _ _ _ q)⟩
section
variable {X : Cx} {g : Sg} {n : Nat} {N : List Str} {sc so : Scope} {W : WX}
theorem pg_I (S : Std X g n N sc so W) (hh : g.hot = false) (F : List Addr) : ∀ (p : Pt) (e : Expr), chkP N so p e = true → PG X e (gI X.K F p) ∧ (∀ es env, assignEach (e :: es) env = (false, assign e env) :: assignEach es env) := by
  intro p
  induction p with
  | n i =>
    intro e h
    cases e <;> first | (cases h; done) | skip
    rename_i x pos
    simp only [chkP, Bool.and_eq_true, decide_eq_true_eq] at h
    obtain ⟨hl, hf⟩ := S.so x (loc_of h.2)
    have hN : X.N.Nodup := by rw [S.eN]; exact S.nd
    refine ⟨PG.imp (pg_name hN (by rw [S.eN]; exact h.1) (by rw [S.eS]; exact hl) (by rw [S.eS]; exact hf)) fun v σ H Q q => ?_, fun _ _ => rfl⟩
    obtain ⟨r, st, env, q, env', R, E, hv, e1, h⟩ := q
    cases e1
    exact h _ (E.set i hv) fun vs hvs => wipe_set_in σ _ vs i (hvs i (by simp [Pt.slots]))
  | t2 a b iha ihb =>
    intro e h
    cases e <;> first | (cases h; done) | skip
    rename_i es k pos
    match es, h with
    | [x, y], h =>
      simp only [chkP, Bool.and_eq_true] at h
      obtain ⟨g1, a1⟩ := iha x h.1
      obtain ⟨g2, a2⟩ := ihb y h.2
      refine ⟨PG.imp (pg_tup (S.cal.calm hh) (pgs_cons g1 (pgs_cons g2 pgs_nil (by rw [a2]; rfl)) (by rw [a1]; rfl)) (n := 2) (by rw [a1, a2]; rfl) (by rw [a1, a2]; rfl)) fun v σ H Q q => ?_, fun _ _ => rfl⟩
      obtain ⟨r, st, env, q, env', R, E, hv, e1, h⟩ := q
      cases hv with
      | @tup ad vs ds hs hq =>
        match ds, e1, hq with
        | [p1, p2], e1, hq =>
          simp only [asgP, Option.bind_eq_some_iff] at e1
          obtain ⟨env1, e1, e2⟩ := e1
          refine ⟨ad, vs, rfl, hs, hq.length, ?_⟩
          cases hq with | cons h1 hq => cases hq with | cons h2 hq =>
          cases hq
          refine ⟨_, _, rfl, r, st, env, p1, env1, R, E, h1, e1, fun σ1 E1 w1 => ⟨_, _, rfl, r, st, env1, p2, env', R, E1, h2, e2, fun σ2 E2 w2 => ⟨rfl, h σ2 E2 fun vs hvs => ?_⟩⟩⟩
          rw [w2 vs fun i hi => hvs i (by simp [Pt.slots, hi]), w1 vs fun i hi => hvs i (by simp [Pt.slots, hi])]
        | [], e1, _ => cases e1
        | [_], e1, _ => cases e1
        | _ :: _ :: _ :: _, e1, _ => cases e1
      | _ => cases e1
    | [], h => cases h
    | [_], h => cases h
    | _ :: _ :: _ :: _, h => cases h
  | t3 a b c iha ihb ihc =>
    intro e h
    cases e <;> first | (cases h; done) | skip
    rename_i es k pos
    match es, h with
    | [x, y, z], h =>
      simp only [chkP, Bool.and_eq_true] at h
      obtain ⟨g1, a1⟩ := iha x h.1.1
      obtain ⟨g2, a2⟩ := ihb y h.1.2
      obtain ⟨g3, a3⟩ := ihc z h.2
      refine ⟨PG.imp (pg_tup (S.cal.calm hh) (pgs_cons g1 (pgs_cons g2 (pgs_cons g3 pgs_nil (by rw [a3]; rfl)) (by rw [a2]; rfl)) (by rw [a1]; rfl)) (n := 3) (by rw [a1, a2, a3]; rfl) (by rw [a1, a2, a3]; rfl)) fun v σ H Q q => ?_, fun _ _ => rfl⟩
      obtain ⟨r, st, env, q, env', R, E, hv, e1, h⟩ := q
      cases hv with
      | @tup ad vs ds hs hq =>
        match ds, e1, hq with
        | [p1, p2, p3], e1, hq =>
          simp only [asgP, Option.bind_eq_some_iff] at e1
          obtain ⟨env2, ⟨env1, e1, e2⟩, e3⟩ := e1
          refine ⟨ad, vs, rfl, hs, hq.length, ?_⟩
          cases hq with | cons h1 hq => cases hq with | cons h2 hq => cases hq with | cons h3 hq =>
          cases hq
          refine ⟨_, _, rfl, r, st, env, p1, env1, R, E, h1, e1, fun σ1 E1 w1 => ⟨_, _, rfl, r, st, env1, p2, env2, R, E1, h2, e2, fun σ2 E2 w2 => ⟨_, _, rfl, r, st, env2, p3, env', R, E2, h3, e3, fun σ3 E3 w3 => ⟨rfl, h σ3 E3 fun vs hvs => ?_⟩⟩⟩⟩
          rw [w3 vs fun i hi => hvs i (by simp [Pt.slots, hi]), w2 vs fun i hi => hvs i (by simp [Pt.slots, hi]), w1 vs fun i hi => hvs i (by simp [Pt.slots, hi])]
        | [], e1, _ => cases e1
        | [_], e1, _ => cases e1
        | [_, _], e1, _ => cases e1
        | _ :: _ :: _ :: _ :: _, e1, _ => cases e1
      | _ => cases e1
    | [], h => cases h
    | [_], h => cases h
    | [_, _], h => cases h
    | _ :: _ :: _ :: _ :: _, h => cases h
  | t4 a b c d iha ihb ihc ihd =>
    intro e h
    cases e <;> first | (cases h; done) | skip
    rename_i es k pos
    match es, h with
    | [x, y, z, u], h =>
      simp only [chkP, Bool.and_eq_true] at h
      obtain ⟨g1, a1⟩ := iha x h.1.1.1
      obtain ⟨g2, a2⟩ := ihb y h.1.1.2
      obtain ⟨g3, a3⟩ := ihc z h.1.2
      obtain ⟨g4, a4⟩ := ihd u h.2
      refine ⟨PG.imp (pg_tup (S.cal.calm hh) (pgs_cons g1 (pgs_cons g2 (pgs_cons g3 (pgs_cons g4 pgs_nil (by rw [a4]; rfl)) (by rw [a3]; rfl)) (by rw [a2]; rfl)) (by rw [a1]; rfl)) (n := 4) (by rw [a1, a2, a3, a4]; rfl) (by rw [a1, a2, a3, a4]; rfl)) fun v σ H Q q => ?_, fun _ _ => rfl⟩
      obtain ⟨r, st, env, q, env', R, E, hv, e1, h⟩ := q
      cases hv with
      | @tup ad vs ds hs hq =>
        match ds, e1, hq with
        | [p1, p2, p3, p4], e1, hq =>
          simp only [asgP, Option.bind_eq_some_iff] at e1
          obtain ⟨env3, ⟨env2, ⟨env1, e1, e2⟩, e3⟩, e4⟩ := e1
          refine ⟨ad, vs, rfl, hs, hq.length, ?_⟩
          cases hq with | cons h1 hq => cases hq with | cons h2 hq => cases hq with | cons h3 hq => cases hq with | cons h4 hq =>
          cases hq
          refine ⟨_, _, rfl, r, st, env, p1, env1, R, E, h1, e1, fun σ1 E1 w1 => ⟨_, _, rfl, r, st, env1, p2, env2, R, E1, h2, e2, fun σ2 E2 w2 => ⟨_, _, rfl, r, st, env2, p3, env3, R, E2, h3, e3, fun σ3 E3 w3 => ⟨_, _, rfl, r, st, env3, p4, env', R, E3, h4, e4, fun σ4 E4 w4 => ⟨rfl, h σ4 E4 fun vs hvs => ?_⟩⟩⟩⟩⟩
          rw [w4 vs fun i hi => hvs i (by simp [Pt.slots, hi]), w3 vs fun i hi => hvs i (by simp [Pt.slots, hi]), w2 vs fun i hi => hvs i (by simp [Pt.slots, hi]), w1 vs fun i hi => hvs i (by simp [Pt.slots, hi])]
        | [], e1, _ => cases e1
        | [_], e1, _ => cases e1
        | [_, _], e1, _ => cases e1
        | [_, _, _], e1, _ => cases e1
        | _ :: _ :: _ :: _ :: _ :: _, e1, _ => cases e1
      | _ => cases e1
    | [], h => cases h
    | [_], h => cases h
    | [_, _], h => cases h
    | [_, _, _], h => cases h
    | _ :: _ :: _ :: _ :: _ :: _, h => cases h
  | t5 a b c d f iha ihb ihc ihd ihf =>
    intro e h
    cases e <;> first | (cases h; done) | skip
    rename_i es k pos
    match es, h with
    | [x, y, z, u, w], h =>
      simp only [chkP, Bool.and_eq_true] at h
      obtain ⟨g1, a1⟩ := iha x h.1.1.1.1
      obtain ⟨g2, a2⟩ := ihb y h.1.1.1.2
      obtain ⟨g3, a3⟩ := ihc z h.1.1.2
      obtain ⟨g4, a4⟩ := ihd u h.1.2
      obtain ⟨g5, a5⟩ := ihf w h.2
      refine ⟨PG.imp (pg_tup (S.cal.calm hh) (pgs_cons g1 (pgs_cons g2 (pgs_cons g3 (pgs_cons g4 (pgs_cons g5 pgs_nil (by rw [a5]; rfl)) (by rw [a4]; rfl)) (by rw [a3]; rfl)) (by rw [a2]; rfl)) (by rw [a1]; rfl)) (n := 5) (by rw [a1, a2, a3, a4, a5]; rfl) (by rw [a1, a2, a3, a4, a5]; rfl)) fun v σ H Q q => ?_, fun _ _ => rfl⟩
      obtain ⟨r, st, env, q, env', R, E, hv, e1, h⟩ := q
      cases hv with
      | @tup ad vs ds hs hq =>
        match ds, e1, hq with
        | [p1, p2, p3, p4, p5], e1, hq =>
          simp only [asgP, Option.bind_eq_some_iff] at e1
          obtain ⟨env4, ⟨env3, ⟨env2, ⟨env1, e1, e2⟩, e3⟩, e4⟩, e5⟩ := e1
          refine ⟨ad, vs, rfl, hs, hq.length, ?_⟩
          cases hq with | cons h1 hq => cases hq with | cons h2 hq => cases hq with | cons h3 hq => cases hq with | cons h4 hq => cases hq with | cons h5 hq =>
          cases hq
          refine ⟨_, _, rfl, r, st, env, p1, env1, R, E, h1, e1, fun σ1 E1 w1 => ⟨_, _, rfl, r, st, env1, p2, env2, R, E1, h2, e2, fun σ2 E2 w2 => ⟨_, _, rfl, r, st, env2, p3, env3, R, E2, h3, e3, fun σ3 E3 w3 => ⟨_, _, rfl, r, st, env3, p4, env4, R, E3, h4, e4, fun σ4 E4 w4 => ⟨_, _, rfl, r, st, env4, p5, env', R, E4, h5, e5, fun σ5 E5 w5 => ⟨rfl, h σ5 E5 fun vs hvs => ?_⟩⟩⟩⟩⟩⟩
          rw [w5 vs fun i hi => hvs i (by simp [Pt.slots, hi]), w4 vs fun i hi => hvs i (by simp [Pt.slots, hi]), w3 vs fun i hi => hvs i (by simp [Pt.slots, hi]), w2 vs fun i hi => hvs i (by simp [Pt.slots, hi]), w1 vs fun i hi => hvs i (by simp [Pt.slots, hi])]
        | [], e1, _ => cases e1
        | [_], e1, _ => cases e1
        | [_, _], e1, _ => cases e1
        | [_, _, _], e1, _ => cases e1
        | [_, _, _, _], e1, _ => cases e1
        | _ :: _ :: _ :: _ :: _ :: _ :: _, e1, _ => cases e1
      | _ => cases e1
    | [], h => cases h
    | [_], h => cases h
    | [_, _], h => cases h
    | [_, _, _], h => cases h
    | [_, _, _, _], h => cases h
    | _ :: _ :: _ :: _ :: _ :: _ :: _, h => cases h
end

/-! ### what is walked -/
/-- the iterator J gives these items one by one, whatever else happens, while what is watched stands -/
def JOk (K : PySem.W.Frag) (F : List Addr) (J : It) (xs : List PV) (w : Watch) (r0 : List Addr) (H0 : Hp) : Prop :=
  ∀ (F2 : List Addr) (i : Nat) (H : Hp) (r : List Addr) (st : Store), (∀ b ∈ F2, b ∈ F ∨ H0 b = none) → AftF F r0 H0 r H → Rel K F2 H r st → watchOk w st →
    (∀ p, xs[i]? = some p → J.go i H ∧ ∀ x H', J.yld i H x H' → Aft r H r H' ∧ Rel K F2 H' r st ∧ Rep K F2 H' r x p) ∧ (xs.length ≤ i → J.stop i H)
def PostI (K : PySem.W.Frag) (F : List Addr) (B : EW) (r : List Addr) (H : Hp) (R : It → Hp → Prop) : Out (List PV × Watch) → Prop
  | .ok xw st' => ∀ H' r' J, Aft r H r' H' → Rel K F H' r' st' → JOk K F J xw.1 xw.2 r' H' → R J H'
  | .exc c p st' => PostX K F B r H c p st'
  | .bad => False
theorem PostI.aft {K : PySem.W.Frag} {F : List Addr} {B : EW} {H H' : Hp} {r r' : List Addr} {R : It → Hp → Prop} {o : Out (List PV × Watch)} (h : PostI K F B r H R o) (A : Aft r H r' H') : PostI K F B r' H' R o := by
  cases o with
  | ok p st' => exact fun H2 r2 J A2 => h H2 r2 J (A.trans A2)
  | exc => exact PostX.aft h A
  | bad => exact h.elim
def iI (K : PySem.W.Frag) (F : List Addr) (W : SW) (o : Env → Store → Out (List PV × Watch)) : TI := fun σ H R => ∃ r env st, Rel K F H r st ∧ EnvRel K F H r env σ ∧ PostI K F (W σ) r H R (o env st)
section
variable {K : PySem.W.Frag} {F : List Addr} {H : Hp} {r : List Addr} {st : Store} {a b : Addr} {vs ws : List V} {xs ys : List PV}
theorem JOk.tup (R : Rel K F H r st) (h : SqT K H a vs) (q : Reps K F H r vs xs) : JOk K F (Itt K a) xs [] r H := by
  intro F2 i H1 r1 st1 hF A R1 _
  have h1 := SqT.aftF R A h
  have q1 := Reps.aft2 R A hF q
  refine ⟨fun p e => ?_, fun hl => ⟨vs, h1, by rw [q1.length]; exact hl⟩⟩
  obtain ⟨v, e1, e2⟩ := q1.get2 e
  refine ⟨⟨vs, v, h1, e1⟩, fun x H' y => ?_⟩
  obtain ⟨rfl, y⟩ := y
  have e3 := y vs h1
  rw [e1] at e3; cases e3
  exact ⟨.refl, R1, e2⟩
theorem JOk.lsv (R : Rel K F H r st) (h : SqF K F H r a vs) (q : Reps K F H r vs xs) : JOk K F (Itl K a) xs [] r H := by
  intro F2 i H1 r1 st1 hF A R1 _
  have h1 := (SqF.aft2 R A hF h).seq
  have q1 := Reps.aft2 R A hF q
  refine ⟨fun p e => ?_, fun hl => ⟨vs, h1, by rw [q1.length]; exact hl⟩⟩
  obtain ⟨v, e1, e2⟩ := q1.get2 e
  refine ⟨⟨vs, v, h1, e1⟩, fun x H' y => ?_⟩
  obtain ⟨rfl, y⟩ := y
  have e3 := y vs h1
  rw [e1] at e3; cases e3
  exact ⟨.refl, R1, e2⟩
theorem JOk.loc {j : Nat} (h : r[j]? = some a) : JOk K F (Itl K a) xs [(j, xs)] r H := by
  intro F2 i H1 r1 st1 hF A R1 hw
  have hj : st1[j]? = some xs := hw (j, xs) (by simp)
  obtain ⟨us, h1, q1⟩ := R1.cells j a xs (A.get h) hj
  have h2 : SqL K H1 a us := .of h1
  refine ⟨fun p e => ?_, fun hl => ⟨us, h2, by rw [q1.length]; exact hl⟩⟩
  obtain ⟨v, e1, e2⟩ := q1.get2 e
  refine ⟨⟨us, v, h2, e1⟩, fun x H' y => ?_⟩
  obtain ⟨rfl, y⟩ := y
  have e3 := y us h2
  rw [e1] at e3; cases e3
  exact ⟨.refl, R1, e2⟩
theorem JOk.rng (lo : Int) (n : Nat) : JOk K F (Itr lo n) (rngL lo 1 n) [] r H := by
  intro F2 i H1 r1 st1 hF A R1 _
  have hl : (rngL lo 1 n).length = n := by simp [rngL]
  refine ⟨fun p e => ?_, fun h => by rw [hl] at h; exact h⟩
  have hi : i < n := by rw [← hl]; exact (List.getElem?_eq_some_iff.mp e).1
  have e2 : p = .int (lo + (i : Nat) * 1) := by
    simp only [rngL, List.getElem?_map, List.getElem?_range hi, Option.map_some, Option.some.injEq] at e
    exact e.symm
  refine ⟨hi, fun x H' y => ?_⟩
  obtain ⟨rfl, rfl⟩ := y
  rw [e2, Int.mul_one]
  exact ⟨.refl, R1, .int _⟩
theorem JOk.rngC (lo c : Int) (n : Nat) : JOk K F (Itc lo c n) (rngL lo c n) [] r H := by
  intro F2 i H1 r1 st1 hF A R1 _
  have hl : (rngL lo c n).length = n := by simp [rngL]
  refine ⟨fun p e => ?_, fun h => by rw [hl] at h; exact h⟩
  have hi : i < n := by rw [← hl]; exact (List.getElem?_eq_some_iff.mp e).1
  have e2 : p = .int (lo + (i : Nat) * c) := by
    simp only [rngL, List.getElem?_map, List.getElem?_range hi, Option.map_some, Option.some.injEq] at e
    exact e.symm
  refine ⟨hi, fun x H' y => ?_⟩
  obtain ⟨rfl, rfl⟩ := y
  rw [e2]
  exact ⟨.refl, R1, .int _⟩
/-- a list that is read, at any later time while what is watched stands -/
theorem seq_later {v : V} {p : PV} (R : Rel K F H r st) (h : Rep K F H r v p) (e : seqL st p = some xs) : ∃ a, v = .ref a ∧ ∀ (F2 : List Addr) (H1 : Hp) (r1 : List Addr) (st1 : Store), (∀ b ∈ F2, b ∈ F ∨ H b = none) → AftF F r H r1 H1 → Rel K F2 H1 r1 st1 → watchOk (watchOf p xs) st1 →
    ∃ us, SqL K H1 a us ∧ Reps K F2 H1 r1 us xs := by
  cases h with
  | @lsv a vs ds h q =>
    cases e
    exact ⟨a, rfl, fun F2 H1 r1 st1 hF A R1 _ => ⟨vs, (SqF.aft2 R A hF h).seq, Reps.aft2 R A hF q⟩⟩
  | @loc a i h =>
    refine ⟨a, rfl, fun F2 H1 r1 st1 hF A R1 hw => ?_⟩
    have hj : st1[i]? = some xs := hw (i, xs) (by simp [watchOf])
    obtain ⟨us, h1, q1⟩ := R1.cells i a xs (A.get h) hj
    exact ⟨us, .of h1, q1⟩
  | _ => cases e
theorem JOk.enm {v : V} {p : PV} (R : Rel K F H r st) (h : Rep K F H r v p) (e : seqL st p = some xs) : ∃ a, v = .ref a ∧ JOk K F (Ite K a) (xs.zipIdx.map fun q => .tup [.int (q.2 : Nat), q.1]) (watchOf p xs) r H := by
  obtain ⟨a, rfl, later⟩ := seq_later R h e
  refine ⟨a, rfl, fun F2 i H1 r1 st1 hF A R1 hw => ?_⟩
  obtain ⟨us, h1, q1⟩ := later F2 H1 r1 st1 hF A R1 hw
  refine ⟨fun p e => ?_, fun hl => ⟨us, h1, by rw [q1.length]; simpa using hl⟩⟩
  rw [List.getElem?_map, List.getElem?_zipIdx, Option.map_map, Option.map_eq_some_iff] at e
  obtain ⟨z, e1, rfl⟩ := e
  obtain ⟨u, e2, e3⟩ := q1.get2 e1
  refine ⟨⟨us, u, h1, e2⟩, fun x H' y => ?_⟩
  obtain ⟨T, w, rfl, hT, rfl, y⟩ := y
  have e4 := y us h1
  rw [e2] at e4; cases e4
  refine ⟨.new hT, R1.new hT, ?_⟩
  have : Reps K F2 H1 r1 [.int (i : Nat), u] [.int ((0 + i : Nat) : Nat), z] := by
    rw [Nat.zero_add]
    exact .cons (.int _) (.cons e3 .nil)
  exact .newT R1 hT this
theorem zip_get {α β : Type} {l : List α} {m : List β} {i : Nat} {p : α × β} (h : (l.zip m)[i]? = some p) : l[i]? = some p.1 ∧ m[i]? = some p.2 := by
  rw [List.getElem?_zip_eq_some] at h
  exact h
theorem JOk.zipL {v u : V} {p q : PV} (R : Rel K F H r st) (h : Rep K F H r v p) (e : seqL st p = some xs) (h2 : Rep K F H r u q) (e2 : seqL st q = some ys) :
    ∃ a b, v = .ref a ∧ u = .ref b ∧ JOk K F (Itz K a b) ((xs.zip ys).map fun q => .tup [q.1, q.2]) (watchOf p xs ++ watchOf q ys) r H := by
  obtain ⟨a, rfl, later⟩ := seq_later R h e
  obtain ⟨b, rfl, later2⟩ := seq_later R h2 e2
  refine ⟨a, b, rfl, rfl, fun F2 i H1 r1 st1 hF A R1 hw => ?_⟩
  obtain ⟨us, h1, q1⟩ := later F2 H1 r1 st1 hF A R1 fun z hz => hw z (List.mem_append_left _ hz)
  obtain ⟨ws, h3, q3⟩ := later2 F2 H1 r1 st1 hF A R1 fun z hz => hw z (List.mem_append_right _ hz)
  refine ⟨fun p e => ?_, fun hl => ⟨us, ws, h1, h3, ?_⟩⟩
  · rw [List.getElem?_map, Option.map_eq_some_iff] at e
    obtain ⟨z, e, rfl⟩ := e
    obtain ⟨ea, eb⟩ := zip_get e
    obtain ⟨s1, f1, g1⟩ := q1.get2 ea
    obtain ⟨s2, f2, g2⟩ := q3.get2 eb
    refine ⟨⟨us, ws, s1, s2, h1, h3, f1, f2⟩, fun x H' y => ?_⟩
    obtain ⟨T, w1, w2, rfl, hT, rfl, y1, y2⟩ := y
    have k1 := y1 us h1
    rw [f1] at k1; cases k1
    have k2 := y2 ws h3
    rw [f2] at k2; cases k2
    exact ⟨.new hT, R1.new hT, .newT R1 hT (.cons g1 (.cons g2 .nil))⟩
  · rw [q1.length, q3.length]
    simp only [List.length_map, List.length_zip] at hl
    omega
theorem JOk.zipT (R : Rel K F H r st) (h : SqT K H a vs) (q : Reps K F H r vs xs) (h2 : SqT K H b ws) (q2 : Reps K F H r ws ys) : JOk K F (RZ.ItzT K a b) ((xs.zip ys).map fun q => .tup [q.1, q.2]) [] r H := by
  intro F2 i H1 r1 st1 hF A R1 hw
  have h1 := SqT.aftF R A h
  have q1 := Reps.aft2 R A hF q
  have h3 := SqT.aftF R A h2
  have q3 := Reps.aft2 R A hF q2
  refine ⟨fun p e => ?_, fun hl => ⟨vs, ws, h1, h3, ?_⟩⟩
  · rw [List.getElem?_map, Option.map_eq_some_iff] at e
    obtain ⟨z, e, rfl⟩ := e
    obtain ⟨ea, eb⟩ := zip_get e
    obtain ⟨s1, f1, g1⟩ := q1.get2 ea
    obtain ⟨s2, f2, g2⟩ := q3.get2 eb
    refine ⟨⟨vs, ws, s1, s2, h1, h3, f1, f2⟩, fun x H' y => ?_⟩
    obtain ⟨T, w1, w2, rfl, hT, rfl, y1, y2⟩ := y
    have k1 := y1 vs h1
    rw [f1] at k1; cases k1
    have k2 := y2 ws h3
    rw [f2] at k2; cases k2
    exact ⟨.new hT, R1.new hT, .newT R1 hT (.cons g1 (.cons g2 .nil))⟩
  · rw [q1.length, q3.length]
    simp only [List.length_map, List.length_zip] at hl
    omega
end
end L2.Iv

/-! IvF: comprehensions: their readings. Own work. -/
namespace L2.Iv
open PySem PySem.Spec PyProof.Rows

section
/-- no error may leave here -/
def noW : WX := fun _ _ _ _ => False
def noS : SW := fun _ _ _ _ => False
variable {X : Cx} {g : Sg} {n : Nat} {N : List Str} {sc so : Scope} {W : WX}
theorem Std.blk (S : Std X g n N sc so W) {scope : Scope} {s : Shared} {H : Hp} {cl : List (Str × Addr)} {C : Addr} {fp : List Addr} : Std (X.blk s H scope (compEnvC scope cl C X.env) fp) g n N (relS scope sc) scope noW := by
  refine ⟨⟨S.cal.dp, S.cal.un, S.cal.gd, S.cal.hd, S.cal.calm⟩, S.link, S.eN, S.nd, ?_, fun x hx => ?_, fun e s h => by obtain ⟨a, B, sI, pins, σ, H1, cls, d, _, _, _, _, _, _, _, _, z⟩ := h; exact False.elim z⟩
  · show relS scope X.env.scope = relS scope sc
    rw [S.eS]
  · rcases hx with e | e
    · have q := lookup_relS_keep (sc := sc) (names := scope.names) (x := x) (k := .local) (by decide) e
      exact ⟨.inl q, .inr q⟩
    · have q := lookup_relS_keep (sc := sc) (names := scope.names) (x := x) (k := .cell) (by decide) e
      refine ⟨.inr q, .inl ?_⟩
      show (scope.names.lookup x == some NameKind.cell) = true
      rw [e]; rfl
end

section
variable {K : PySem.W.Frag} {F : List Addr} {H H' : Hp} {r r' : List Addr} {st : Store} {v : V} {p : PV} {vs : List V} {ps : List PV} {env : Env} {σ : St} {D : Addr}
/-- what was shut is one of the lists that are written -/
theorem SqF.opn {a : Addr} (h : SqF K (D :: F) H r a vs) : SqF K F H (r ++ [D]) a vs := by
  rcases h with ⟨h, n1, n2⟩ | h | h
  · simp only [List.mem_cons, not_or] at n2
    exact .inl ⟨h, by simp [n1, n2.1], n2.2⟩
  · exact .inr (.inl h)
  · exact .inr (.inr h)
mutual
theorem Rep.opn : ∀ {v : V} {p : PV}, Rep K (D :: F) H r v p → Rep K F H (r ++ [D]) v p
  | _, _, .non => .non
  | _, _, .bl b => .bl b
  | _, _, .int i => .int i
  | _, _, .str x => .str x
  | _, _, .lsv h q => .lsv h.opn (Reps.opn q)
  | _, _, .tup h q => .tup h (Reps.opn q)
  | _, _, .loc e => .loc (by rw [List.getElem?_append_left (List.getElem?_eq_some_iff.mp e).1]; exact e)
  | _, _, .exn h1 h2 q => .exn h1 h2 (Rep.opn q)
theorem Reps.opn : ∀ {vs : List V} {ps : List PV}, Reps K (D :: F) H r vs ps → Reps K F H (r ++ [D]) vs ps
  | _, _, .nil => .nil
  | _, _, .cons h q => .cons (Rep.opn h) (Reps.opn q)
end
theorem Rel.opn (R : Rel K (D :: F) H r st) (hD : D ∉ r) (hF : D ∉ F) (h : H D = some (.lst vs)) (q : Reps K (D :: F) H r vs ps) : Rel K F H (r ++ [D]) (st ++ [ps]) := by
  refine ⟨by simp [R.len], ?_, fun i b xs e1 e2 => ?_, fun b hb => ?_, fun b hb => R.fs b (by simp [hb])⟩
  · rw [List.nodup_append]
    refine ⟨R.nd, by simp, fun x hx y hy => ?_⟩
    rw [List.mem_singleton] at hy
    rintro rfl
    exact hD (hy ▸ hx)
  · by_cases hi : i < r.length
    · rw [List.getElem?_append_left hi] at e1
      rw [List.getElem?_append_left (by rw [← R.len]; exact hi)] at e2
      obtain ⟨ws, q1, q2⟩ := R.cells i b xs e1 e2
      exact ⟨ws, q1, q2.opn⟩
    · have hl := R.len
      rw [List.getElem?_append_right (by omega)] at e1
      rw [List.getElem?_append_right (by omega)] at e2
      have hz : i - r.length = 0 := by
        have := (List.getElem?_eq_some_iff.mp e1).1
        simp at this; omega
      rw [hz] at e1
      rw [← hl, hz] at e2
      simp at e1 e2
      subst e1; subst e2
      exact ⟨vs, h, q.opn⟩
  · rcases List.mem_append.mp hb with hb | hb
    · exact fun m => R.apart b hb (by simp [m])
    · rw [List.mem_singleton] at hb; subst hb; exact hF
end

/-- a target, tests, an element: whatever is shut -/
def gX (K : PySem.W.Frag) (p : Pt) : TG := fun v σ H Q => ∃ F, gI K F p v σ H Q
def tTX (K : PySem.W.Frag) (o : Env → Store → Out Bool) : TT := fun σ H Q => ∃ F, tIT K F noS o σ H Q
def tX (K : PySem.W.Frag) (o : Env → Store → Out PV) : TE := fun σ H Q => ∃ F, tI K F noS o σ H Q
def iX (K : PySem.W.Frag) (o : Env → Store → Out (List PV × Watch)) : TI := fun σ H R => ∃ F, iI K F noS o σ H R

theorem wipe_wipe (σ : St) (vs : List Nat) : ∀ ws : List Nat, (∀ i ∈ ws, i ∈ vs) → wipe (wipe σ ws) vs = wipe σ vs
  | [], _ => rfl
  | w :: ws, h => by
    show wipe ((wipe σ ws).set w none) vs = _
    rw [wipe_set_in _ _ _ _ (h w (by simp))]
    exact wipe_wipe σ vs ws fun i hi => h i (by simp [hi])
/-- one turn of a comprehension -/
noncomputable def lcTurn (C : Ctx) (env : Env) (p : Pt) (cs : Exs) (e : Ex) : PV → Store → Out (List PV) := fun x st => match asgP p x env with
  | some env1 => (evTests C cs env1 st).quiet.bind fun b st1 => if b = true then (evE C e env1 st1).quiet.bind fun y st2 => .ok [y] st2 else .ok [] st1
  | none => .bad
theorem quiet_eq {α : Type} {o : Out α} {a : α} {st : Store} (h : o.quiet = .ok a st) : o = .ok a st := by
  cases o <;> first | exact h | cases h
theorem bind_eq {α β : Type} {o : Out α} {f : α → Store → Out β} {b : β} {st : Store} (h : o.bind f = .ok b st) : ∃ a st1, o = .ok a st1 ∧ f a st1 = .ok b st := by
  cases o with
  | ok a st1 => exact ⟨a, st1, rfl, h⟩
  | exc => cases h
  | bad => cases h

/-- from inside a turn: an element appended, or none. D is shut -/
def LcIn (K : PySem.W.Frag) (F : List Addr) (D : Addr) (r1 : List Addr) (H1 : Hp) (es : List (Env × St)) (r : List Addr) (st : Store) (acc : List PV) (H : Hp) : Prop :=
  ∃ vs, Aft r1 H1 r H ∧ Rel K (D :: F) H r st ∧ (∀ x ∈ es, EnvRel K (D :: F) H r x.1 x.2) ∧ D ∉ r ∧ H D = some (.lst vs) ∧ Reps K (D :: F) H r vs acc
theorem LcIn.go {K : PySem.W.Frag} {F : List Addr} {D : Addr} {r1 : List Addr} {H1 : Hp} {es : List (Env × St)} {r r' : List Addr} {st st' : Store} {acc : List PV} {H H' : Hp} (L : LcIn K F D r1 H1 es r st acc H)
    (A : Aft r H r' H') (R' : Rel K (D :: F) H' r' st') : LcIn K F D r1 H1 es r' st' acc H' := by
  obtain ⟨vs, a, R, E, n, e, q⟩ := L
  obtain ⟨e2, n2⟩ := A.keep D _ e n
  exact ⟨vs, a.trans A, R', fun x hx => (E x hx).aft R A, n2, e2, q.aft R A⟩
theorem LcIn.add {K : PySem.W.Frag} {F : List Addr} {D : Addr} {r1 : List Addr} {H1 : Hp} {es : List (Env × St)} {r : List Addr} {st : Store} {acc : List PV} {H : Hp} {v : V} {p : PV} (L : LcIn K F D r1 H1 es r st acc H) (hD : H1 D = none)
    (h : Rep K (D :: F) H r v p) : ∃ vs, H D = some (.lst vs) ∧ vs.length = acc.length ∧ LcIn K F D r1 H1 es r st (acc ++ [p]) (upd H D (.lst (vs ++ [v]))) := by
  obtain ⟨vs, a, R, E, n, e, q⟩ := L
  have hm : D ∈ D :: F := by simp
  refine ⟨vs, e, q.length, vs ++ [v], ⟨a.pre, fun b o eb nb => ?_⟩, R.wr hm e, fun x hx => (E x hx).wr hm e, n, upd_same, Reps.append (q.wr hm e) (.cons (h.wr hm e) .nil)⟩
  obtain ⟨z1, z2⟩ := a.keep b o eb nb
  exact ⟨by rw [upd_ne (ne_of_none eb hD)]; exact z1, z2⟩

/-- the turns of a comprehension's one clause, upon a list D that is shut -/
theorem lc_turns {C : Ctx} {K : PySem.W.Frag} {F : List Addr} {D : Addr} {r1 r0 : List Addr} {H1 H0 : Hp} {env : Env} {σ : St} {es : List (Env × St)} {p : Pt} {cs : Exs} {e : Ex} {own : List Nat} {J : It} {xs : List PV} {w : Watch}
    (hD : H1 D = none) (hes : (env, σ) ∈ es) (hown : ∀ i ∈ p.slots, i ∈ own) {i : Nat} {r : List Addr} {st : Store} {acc : List PV} {H : Hp} {F0 : List Addr} (j : JOk K F0 J xs w r0 H0) (hF : ∀ b ∈ D :: F, b ∈ F0 ∨ H0 b = none) (A0 : AftF F0 r0 H0 r H)
    (L : LcIn K F D r1 H1 es r st acc H) {x : PV} (hx : xs[i]? = some x) (hw : watchOk w st) {ys : List PV} {st' : Store}
    (hf : lcTurn C (wipeE env own) p cs e x st = .ok ys st') (hz : acc.length + ys.length ≤ sizeLine) (Nx : Hp → Prop) (hN : ∀ H' r', LcIn K F D r1 H1 es r' st' (acc ++ ys) H' → AftF (D :: F) r H r' H' → Nx H') :
    J.go i H ∧ ∀ x H', J.yld i H x H' → gX K p x (wipe σ own) H' fun σ2 H2 => wipe σ2 own = wipe σ own ∧ tTX K (evTests C cs) σ2 H2 fun b H3 =>
      if b = true then tX K (evE C e) σ2 H3 fun y H4 => ∃ acc, H4 D = some (.lst acc) ∧ acc.length < sizeLine ∧ Nx (upd H4 D (.lst (acc ++ [y]))) else Nx H3 := by
  obtain ⟨vs, a, R, E, nD, eD, q⟩ := id L
  obtain ⟨go, yl⟩ := (j (D :: F) i H r st hF A0 R hw).1 x hx
  refine ⟨go, fun v H' hy => ?_⟩
  obtain ⟨A1, R1, hv⟩ := yl v H' hy
  have L1 := L.go A1 R1
  obtain ⟨_, _, _, E1, _, _, _⟩ := id L1
  unfold lcTurn at hf
  split at hf
  · rename_i env1 he1
    obtain ⟨b, st1, h1, h2⟩ := bind_eq hf
    have h1 := quiet_eq h1
    refine ⟨D :: F, r, st, wipeE env own, x, env1, R1, (E1 _ hes).wipe own, hv, he1, fun σ2 E2 w2 => ⟨(w2 own hown).trans (wipe_wipe σ own own fun _ z => z), D :: F, r, env1, st, R1, E2, ?_⟩⟩
    rw [h1]
    intro H3 r3 A3 R3
    have L3 := L1.go A3 R3
    cases b with
    | true =>
      rw [if_pos rfl]
      rw [if_pos rfl] at h2
      obtain ⟨y, st2, h3, h4⟩ := bind_eq h2
      have h3 := quiet_eq h3
      cases h4
      refine ⟨D :: F, r3, env1, st1, R3, E2.aft R1 A3, ?_⟩
      rw [h3]
      intro v4 H4 r4 A4 R4 hv4
      obtain ⟨ws, e4, l4, L4⟩ := (L3.go A4 R4).add hD hv4
      refine ⟨ws, e4, ?_, hN _ r4 L4 ((Aft.toF (A1.trans (A3.trans A4))).trans ⟨⟨[], by simp⟩, fun b o eb nb mb => ⟨by rw [upd_ne (by rintro rfl; exact mb (by simp))]; exact eb, nb⟩⟩)⟩
      rw [l4]
      simp only [List.length_singleton] at hz
      omega
    | false =>
      rw [if_neg Bool.false_ne_true]
      rw [if_neg Bool.false_ne_true] at h2
      cases h2
      refine hN H3 r3 ?_ (Aft.toF (A1.trans A3))
      rw [List.append_nil]
      exact L3
  · cases hf

theorem compF_cons {w : Watch} {f : PV → Store → Out (List PV)} {x : PV} {xs acc : List PV} {st : Store} {zs : List PV} {st2 : Store} (h : compF w f (x :: xs) acc st = .ok zs st2) :
    watchOk w st ∧ ∃ ys st1, f x st = .ok ys st1 ∧ acc.length + ys.length ≤ sizeLine ∧ compF w f xs (acc ++ ys) st1 = .ok zs st2 := by
  unfold compF at h
  split at h
  · rename_i hw
    obtain ⟨ys, st1, h1, h2⟩ := bind_eq h
    split at h2
    · exact ⟨hw, ys, st1, h1, by assumption, h2⟩
    · cases h2
  · cases h

theorem compF_nil {w : Watch} {f : PV → Store → Out (List PV)} {acc : List PV} {st : Store} {zs : List PV} {st2 : Store} (h : compF w f [] acc st = .ok zs st2) : watchOk w st ∧ acc = zs ∧ st = st2 := by
  unfold compF at h
  split at h
  · cases h; exact ⟨by assumption, rfl, rfl⟩
  · cases h
theorem drop_get {α : Type} {l : List α} {i : Nat} (h : i < l.length) : ∃ x, l[i]? = some x ∧ l.drop i = x :: l.drop (i + 1) :=
  ⟨l[i], List.getElem?_eq_getElem h, List.drop_eq_getElem_cons h⟩

theorem quiet_exc {α β : Type} {o : Out α} {f : α → Store → Out β} {c : Str} {v : PV} {st : Store} (h : o.quiet.bind f = .exc c v st) : ∃ a st1, o = .ok a st1 ∧ f a st1 = .exc c v st := by
  cases o with
  | ok a st1 => exact ⟨a, st1, rfl, h⟩
  | exc => cases h
  | bad => cases h
theorem bind_exc' {α β : Type} {o : Out α} {f : α → Store → Out β} {c : Str} {v : PV} {st : Store} (h : o.bind f = .exc c v st) : o = .exc c v st ∨ ∃ a st1, o = .ok a st1 ∧ f a st1 = .exc c v st := by
  cases o with
  | ok a st1 => exact .inr ⟨a, st1, rfl, h⟩
  | exc => cases h; exact .inl rfl
  | bad => cases h
theorem compF_exc {w : Watch} {f : PV → Store → Out (List PV)} (hf : ∀ x st c v st', f x st ≠ .exc c v st') : ∀ {xs acc : List PV} {st : Store} {c : Str} {v : PV} {st' : Store}, compF w f xs acc st ≠ .exc c v st'
  | [], acc, st, c, v, st', h => by
    unfold compF at h
    split at h <;> cases h
  | x :: xs, acc, st, c, v, st', h => by
    unfold compF at h
    split at h
    · rcases bind_exc' h with h | ⟨ys, st1, _, h⟩
      · exact hf _ _ _ _ _ h
      · split at h
        · exact compF_exc hf h
        · cases h
    · cases h
theorem lcTurn_exc (C : Ctx) (env : Env) (p : Pt) (cs : Exs) (e : Ex) (x : PV) (st : Store) (c : Str) (v : PV) (st' : Store) : lcTurn C env p cs e x st ≠ .exc c v st' := by
  intro h
  unfold lcTurn at h
  split at h
  · obtain ⟨b, st1, _, h⟩ := quiet_exc h
    split at h
    · obtain ⟨y, st2, _, h⟩ := quiet_exc h
      cases h
    · cases h
  · cases h
theorem lc_read {C : Ctx} {K : PySem.W.Frag} {F : List Addr} {σ : St} {H : Hp} {W : SW} {Q : VK} {fr : Bool} {own : List Nat} {p : Pt} {it : Ix} {cs : Exs} {e : Ex} (hown : ∀ i ∈ p.slots, i ∈ own)
    (h : tI K F W (evE C (.lc fr own p it cs e)) σ H Q) : tLc (iI K F W (evIx C it)) (gX K p) (tTX K (evTests C cs)) (tX K (evE C e)) own σ H Q := by
  obtain ⟨r, env, st, R, E, h⟩ := h
  have h : Post K F (W σ) r H Q ((evIx C it env st).bind fun xw st1 => (compF xw.2 (lcTurn C (wipeE env own) p cs e) xw.1 [] st1).bind fun ys st2 => newL fr ys st2) := h
  refine ⟨r, env, st, R, E, ?_⟩
  cases hi : evIx C it env st with
  | exc => rw [hi] at h; exact h
  | bad => rw [hi] at h; exact h.elim
  | ok xw st1 =>
    rw [hi] at h
    intro H1 r1 J A1 R1 j D hD
    have h : Post K F (W σ) r H Q ((compF xw.2 (lcTurn C (wipeE env own) p cs e) xw.1 [] st1).bind fun ys st2 => newL fr ys st2) := h
    cases hc : compF xw.2 (lcTurn C (wipeE env own) p cs e) xw.1 [] st1 with
    | exc => exact absurd hc (compF_exc (lcTurn_exc _ _ _ _ _))
    | bad => rw [hc] at h; exact h.elim
    | ok zs st2 =>
      rw [hc] at h
      have h : Post K F (W σ) r1 H1 Q (newL fr zs st2) := h.aft A1
      have hF : ∀ b ∈ D :: F, b ∈ F ∨ H1 b = none := fun b hb => by
        rcases List.mem_cons.mp hb with rfl | hb
        · exact .inr hD
        · exact .inl hb
      have E1 := E.aft R A1
      have nF := (R1.fresh hD).2
      refine ⟨fun i m H2 => i ≤ xw.1.length ∧ m = xw.1.length - i ∧ ∃ r2 st3 acc, LcIn K F D r1 H1 [(env, σ)] r2 st3 acc H2 ∧ compF xw.2 (lcTurn C (wipeE env own) p cs e) (xw.1.drop i) acc st3 = .ok zs st2,
        ⟨_, Nat.zero_le _, rfl, r1, st1, [], ⟨[], .new hD, R1.shut hD, fun x hx => by
          rw [List.mem_singleton] at hx; subst hx; exact E1.aft2 R1 (Aft.toF (.new hD)) hF, (R1.fresh hD).1, upd_same, .nil⟩, by rw [List.drop_zero]; exact hc⟩, ?_⟩
      rintro i m H2 ⟨hi2, rfl, r2, st3, acc, L, hc2⟩
      by_cases hlt : i < xw.1.length
      · right
        obtain ⟨x, hx, hd⟩ := drop_get hlt
        rw [hd] at hc2
        obtain ⟨hw, ys, st4, hf, hz, hc3⟩ := compF_cons hc2
        have T := lc_turns (env := env) (σ := σ) hD (by simp) hown j hF (by obtain ⟨_, a, _⟩ := L; exact a.toF) L hx hw hf hz (fun H' => i + 1 ≤ xw.1.length ∧ ∃ r2 st3 acc, LcIn K F D r1 H1 [(env, σ)] r2 st3 acc H' ∧ compF xw.2 (lcTurn C (wipeE env own) p cs e) (xw.1.drop (i + 1)) acc st3 = .ok zs st2)
          fun H' r' L' _ => ⟨hlt, r', st4, acc ++ ys, L', hc3⟩
        exact ⟨T.1, _, fun H' hN => ⟨xw.1.length - (i + 1), by omega, hN.1, rfl, hN.2⟩, T.2⟩
      · left
        have hi3 : i = xw.1.length := by omega
        subst hi3
        rw [List.drop_length] at hc2
        obtain ⟨hw, rfl, rfl⟩ := compF_nil hc2
        obtain ⟨vs, a, R2, E2, nD, eD, q⟩ := L
        refine ⟨(j (D :: F) _ H2 r2 st3 hF a.toF R2 hw).2 (Nat.le_refl _), ?_⟩
        · cases fr with
          | true => exact h _ _ r2 a (R2.less fun b hb => by simp [hb]) (.lsv (.inl ⟨eD, nD, nF⟩) (q.less fun b hb => by simp [hb]))
          | false =>
            refine h _ _ (r2 ++ [D]) ⟨?_, fun b o eb nb => ?_⟩ (R2.opn nD nF eD q) (.loc ?_)
            · obtain ⟨z, e⟩ := a.pre
              exact ⟨z ++ [D], by rw [e, List.append_assoc]⟩
            · obtain ⟨z1, z2⟩ := a.keep b o eb nb
              exact ⟨z1, by simp [z2, ne_of_none eb hD]⟩
            · rw [← R2.len]; simp

theorem compF_le {w : Watch} {f : PV → Store → Out (List PV)} : ∀ {xs acc : List PV} {st : Store} {zs : List PV} {st2 : Store}, compF w f xs acc st = .ok zs st2 → acc.length ≤ zs.length
  | [], acc, st, zs, st2, h => by
    obtain ⟨_, rfl, _⟩ := compF_nil h
    exact Nat.le_refl _
  | x :: xs, acc, st, zs, st2, h => by
    obtain ⟨_, ys, st1, _, _, h2⟩ := compF_cons h
    have := compF_le h2
    rw [List.length_append] at this
    omega
/-- a turn of the outer clause -/
noncomputable def lcTurn2 (C : Ctx) (env : Env) (p : Pt) (cs : Exs) (vs2 : List Nat) (p2 : Pt) (it2 : Ix) (cs2 : Exs) (e : Ex) : PV → Store → Out (List PV) := fun x st => match asgP p x env with
  | some env1 => (evTests C cs env1 st).quiet.bind fun b st1 => if b = true then (evIx C it2 env1 st1).quiet.bind fun xw2 st2 => compF xw2.2 (lcTurn C (wipeE env1 vs2) p2 cs2 e) xw2.1 [] st2 else .ok [] st1
  | none => .bad
theorem lcTurn2_exc (C : Ctx) (env : Env) (p : Pt) (cs : Exs) (vs2 : List Nat) (p2 : Pt) (it2 : Ix) (cs2 : Exs) (e : Ex) (x : PV) (st : Store) (c : Str) (v : PV) (st' : Store) : lcTurn2 C env p cs vs2 p2 it2 cs2 e x st ≠ .exc c v st' := by
  intro h
  unfold lcTurn2 at h
  split at h
  · obtain ⟨b, st1, _, h⟩ := quiet_exc h
    split at h
    · obtain ⟨y, st2, _, h⟩ := quiet_exc h
      exact compF_exc (lcTurn_exc _ _ _ _ _) h
    · cases h
  · cases h
theorem lc2_read {C : Ctx} {K : PySem.W.Frag} {F : List Addr} {σ : St} {H : Hp} {W : SW} {Q : VK} {fr : Bool} {own vs2 : List Nat} {p p2 : Pt} {it it2 : Ix} {cs cs2 : Exs} {e : Ex} (hown : ∀ i ∈ p.slots, i ∈ own) (hown2 : ∀ i ∈ p2.slots, i ∈ vs2)
    (h : tI K F W (evE C (.lc2 fr own p it cs vs2 p2 it2 cs2 e)) σ H Q) : tLc2 (iI K F W (evIx C it)) (gX K p) (tTX K (evTests C cs)) (iX K (evIx C it2)) (gX K p2) (tTX K (evTests C cs2)) (tX K (evE C e)) own vs2 σ H Q := by
  obtain ⟨r, env, st, R, E, h⟩ := h
  have h : Post K F (W σ) r H Q ((evIx C it env st).bind fun xw st1 => (compF xw.2 (lcTurn2 C (wipeE env own) p cs vs2 p2 it2 cs2 e) xw.1 [] st1).bind fun ys st2 => newL fr ys st2) := h
  refine ⟨r, env, st, R, E, ?_⟩
  cases hi : evIx C it env st with
  | exc => rw [hi] at h; exact h
  | bad => rw [hi] at h; exact h.elim
  | ok xw st1 =>
    rw [hi] at h
    intro H1 r1 J A1 R1 j D hD
    have h : Post K F (W σ) r H Q ((compF xw.2 (lcTurn2 C (wipeE env own) p cs vs2 p2 it2 cs2 e) xw.1 [] st1).bind fun ys st2 => newL fr ys st2) := h
    cases hc : compF xw.2 (lcTurn2 C (wipeE env own) p cs vs2 p2 it2 cs2 e) xw.1 [] st1 with
    | exc => exact absurd hc (compF_exc (lcTurn2_exc _ _ _ _ _ _ _ _ _))
    | bad => rw [hc] at h; exact h.elim
    | ok zs st2 =>
      rw [hc] at h
      have h : Post K F (W σ) r1 H1 Q (newL fr zs st2) := h.aft A1
      have hF : ∀ b ∈ D :: F, b ∈ F ∨ H1 b = none := fun b hb => by
        rcases List.mem_cons.mp hb with rfl | hb
        · exact .inr hD
        · exact .inl hb
      have E1 := E.aft R A1
      have nF := (R1.fresh hD).2
      refine ⟨fun i m H2 => i ≤ xw.1.length ∧ m = xw.1.length - i ∧ ∃ r2 st3 acc, LcIn K F D r1 H1 [(env, σ)] r2 st3 acc H2 ∧ compF xw.2 (lcTurn2 C (wipeE env own) p cs vs2 p2 it2 cs2 e) (xw.1.drop i) acc st3 = .ok zs st2,
        ⟨_, Nat.zero_le _, rfl, r1, st1, [], ⟨[], .new hD, R1.shut hD, fun x hx => by
          rw [List.mem_singleton] at hx; subst hx; exact E1.aft2 R1 (Aft.toF (.new hD)) hF, (R1.fresh hD).1, upd_same, .nil⟩, by rw [List.drop_zero]; exact hc⟩, ?_⟩
      rintro i m H2 ⟨hi2, rfl, r2, st3, acc, L, hc2⟩
      by_cases hlt : i < xw.1.length
      · right
        obtain ⟨x, hx, hd⟩ := drop_get hlt
        rw [hd] at hc2
        obtain ⟨hw, ys, st4, hf, hz, hc3⟩ := compF_cons hc2
        obtain ⟨vs, a, R2, E2, nD, eD, q⟩ := id L
        obtain ⟨go, yl⟩ := (j (D :: F) i H2 r2 st3 hF a.toF R2 hw).1 x hx
        refine ⟨go, fun H' => i + 1 ≤ xw.1.length ∧ ∃ r2 st3 acc, LcIn K F D r1 H1 [(env, σ)] r2 st3 acc H' ∧ compF xw.2 (lcTurn2 C (wipeE env own) p cs vs2 p2 it2 cs2 e) (xw.1.drop (i + 1)) acc st3 = .ok zs st2, fun H' hN => ⟨xw.1.length - (i + 1), by omega, hN.1, rfl, hN.2⟩, fun v H' hy => ?_⟩
        have hN : ∀ H' r', LcIn K F D r1 H1 [(env, σ)] r' st4 (acc ++ ys) H' → (i + 1 ≤ xw.1.length ∧ ∃ r2 st3 acc, LcIn K F D r1 H1 [(env, σ)] r2 st3 acc H' ∧ compF xw.2 (lcTurn2 C (wipeE env own) p cs vs2 p2 it2 cs2 e) (xw.1.drop (i + 1)) acc st3 = .ok zs st2) :=
          fun H' r' L' => ⟨hlt, r', st4, acc ++ ys, L', hc3⟩
        obtain ⟨A3, R3, hv⟩ := yl v H' hy
        have L1 := L.go A3 R3
        obtain ⟨_, _, _, E3, _, _, _⟩ := id L1
        unfold lcTurn2 at hf
        split at hf
        · rename_i env1 he1
          obtain ⟨b, st5, h1, h2⟩ := bind_eq hf
          have h1 := quiet_eq h1
          refine ⟨D :: F, r2, st3, wipeE env own, x, env1, R3, (E3 (env, σ) (by simp)).wipe own, hv, he1, fun σ2 E2 w2 => ⟨(w2 own hown).trans (wipe_wipe σ own own fun _ z => z), D :: F, r2, env1, st3, R3, E2, ?_⟩⟩
          rw [h1]
          intro H5 r5 A5 R5
          have L5 := L1.go A5 R5
          have E5 := E2.aft R3 A5
          cases b with
          | false =>
            rw [if_neg Bool.false_ne_true]
            rw [if_neg Bool.false_ne_true] at h2
            cases h2
            refine hN H5 r5 ?_
            rw [List.append_nil]
            exact L5
          | true =>
            rw [if_pos rfl]
            rw [if_pos rfl] at h2
            obtain ⟨xw2, st6, h3, h4⟩ := bind_eq h2
            have h3 := quiet_eq h3
            refine ⟨D :: F, r5, env1, st5, R5, E5, ?_⟩
            rw [h3]
            intro H6 r6 J1 A6 R6 j1
            have L6 : LcIn K F D r1 H1 [(env, σ), (env1, σ2)] r6 st6 acc H6 := by
              obtain ⟨vs, a, R, E, n, e, q⟩ := L5.go A6 R6
              refine ⟨vs, a, R, fun y hy => ?_, n, e, q⟩
              rcases List.mem_cons.mp hy with rfl | hy
              · exact E _ (by simp)
              · rw [List.mem_singleton] at hy; subst hy; exact E5.aft R5 A6
            refine ⟨fun k m H2 => k ≤ xw2.1.length ∧ m = xw2.1.length - k ∧ ∃ r2 st3 ac, LcIn K F D r1 H1 [(env, σ), (env1, σ2)] r2 st3 (acc ++ ac) H2 ∧ AftF (D :: F) r6 H6 r2 H2 ∧ compF xw2.2 (lcTurn C (wipeE env1 vs2) p2 cs2 e) (xw2.1.drop k) ac st3 = .ok ys st4,
              ⟨_, Nat.zero_le _, rfl, r6, st6, [], by rw [List.append_nil]; exact L6, Aft.toF .refl, by rw [List.drop_zero]; exact h4⟩, ?_⟩
            rintro k m H7 ⟨hk2, rfl, r7, st7, ac, L7, A7, hc7⟩
            have hF6 : ∀ b ∈ D :: F, b ∈ D :: F ∨ H6 b = none := fun b hb => .inl hb
            by_cases hlt2 : k < xw2.1.length
            · right
              obtain ⟨x2, hx2, hd2⟩ := drop_get hlt2
              rw [hd2] at hc7
              obtain ⟨hw2, ys2, st8, hf2, hz2, hc8⟩ := compF_cons hc7
              have hle := compF_le hc8
              have T := lc_turns (env := env1) (σ := σ2) hD (by simp) hown2 j1 hF6 A7 L7 hx2 hw2 hf2 (by rw [List.length_append] at hle ⊢; omega)
                (fun H' => k + 1 ≤ xw2.1.length ∧ ∃ r2 st3 ac, LcIn K F D r1 H1 [(env, σ), (env1, σ2)] r2 st3 (acc ++ ac) H' ∧ AftF (D :: F) r6 H6 r2 H' ∧ compF xw2.2 (lcTurn C (wipeE env1 vs2) p2 cs2 e) (xw2.1.drop (k + 1)) ac st3 = .ok ys st4)
                fun H' r' L' A' => ⟨hlt2, r', st8, ac ++ ys2, by rw [← List.append_assoc]; exact L', A7.trans A', hc8⟩
              exact ⟨T.1, _, fun H' hN => ⟨xw2.1.length - (k + 1), by omega, hN.1, rfl, hN.2⟩, T.2⟩
            · left
              have hk3 : k = xw2.1.length := by omega
              subst hk3
              rw [List.drop_length] at hc7
              obtain ⟨hw2, rfl, rfl⟩ := compF_nil hc7
              obtain ⟨vs8, a8, R8, E8, nD8, eD8, q8⟩ := L7
              refine ⟨(j1 (D :: F) _ H7 r7 st7 hF6 A7 R8 hw2).2 (Nat.le_refl _), hN H7 r7 ⟨vs8, a8, R8, fun y hy => ?_, nD8, eD8, q8⟩⟩
              rw [List.mem_singleton] at hy
              subst hy
              exact E8 _ (by simp)
        · cases hf
      · left
        have hi3 : i = xw.1.length := by omega
        subst hi3
        rw [List.drop_length] at hc2
        obtain ⟨hw, rfl, rfl⟩ := compF_nil hc2
        obtain ⟨vs, a, R2, E2, nD, eD, q⟩ := L
        refine ⟨(j (D :: F) _ H2 r2 st3 hF a.toF R2 hw).2 (Nat.le_refl _), ?_⟩
        · cases fr with
          | true => exact h _ _ r2 a (R2.less fun b hb => by simp [hb]) (.lsv (.inl ⟨eD, nD, nF⟩) (q.less fun b hb => by simp [hb]))
          | false =>
            refine h _ _ (r2 ++ [D]) ⟨?_, fun b o eb nb => ?_⟩ (R2.opn nD nF eD q) (.loc ?_)
            · obtain ⟨z, e⟩ := a.pre
              exact ⟨z ++ [D], by rw [e, List.append_assoc]⟩
            · obtain ⟨z1, z2⟩ := a.keep b o eb nb
              exact ⟨z1, by simp [z2, ne_of_none eb hD]⟩
            · rw [← R2.len]; simp
end L2.Iv

/-! IvF2: sorted({e: True for p in it}). Own work. -/
namespace L2.Iv
open PySem PySem.Spec PyProof.Rows
section
variable {K : PySem.W.Frag} {F : List Addr} {H : Hp} {r : List Addr} {st : Store} {D : Addr} {o : HO} {ws : List (Key × V)} {env : Env} {σ : St}
/-! no value tells of a dict: one may be written -/
theorem SqF.wrK {a : Addr} {vs : List V} (hl : H D = some (.dK ws)) (h : SqF K F H r a vs) : SqF K F (upd H D o) r a vs := by
  rcases h with ⟨h, n1, n2⟩ | ⟨u, h⟩ | h
  · exact .inl ⟨by rw [upd_ne (by rintro rfl; rw [hl] at h; cases h)]; exact h, n1, n2⟩
  · exact .inr (.inl ⟨u, by rw [upd_ne (by rintro rfl; rw [hl] at h; cases h)]; exact h⟩)
  · exact .inr (.inr h)
theorem SqT.wrK {a : Addr} {vs : List V} (hl : H D = some (.dK ws)) (h : SqT K H a vs) : SqT K (upd H D o) a vs := by
  rcases h with (h | ⟨u, h⟩) | h
  · exact .inl (.inl (by rw [upd_ne (by rintro rfl; rw [hl] at h; cases h)]; exact h))
  · exact .inl (.inr ⟨u, by rw [upd_ne (by rintro rfl; rw [hl] at h; cases h)]; exact h⟩)
  · exact .inr h
mutual
theorem Rep.wrK (hl : H D = some (.dK ws)) : ∀ {v : V} {p : PV}, Rep K F H r v p → Rep K F (upd H D o) r v p
  | _, _, .non => .non
  | _, _, .bl b => .bl b
  | _, _, .int i => .int i
  | _, _, .str x => .str x
  | _, _, .lsv h q => .lsv (h.wrK hl) (Reps.wrK hl q)
  | _, _, .tup h q => .tup (SqT.wrK hl h) (Reps.wrK hl q)
  | _, _, .loc e => .loc e
  | _, _, .exn h1 h2 q => .exn (by rw [upd_ne (by rintro rfl; rw [hl] at h1; cases h1)]; exact h1) (by rw [upd_ne (by rintro rfl; rw [hl] at h2; cases h2)]; exact h2) (Rep.wrK hl q)
theorem Reps.wrK (hl : H D = some (.dK ws)) : ∀ {vs : List V} {ps : List PV}, Reps K F H r vs ps → Reps K F (upd H D o) r vs ps
  | _, _, .nil => .nil
  | _, _, .cons h q => .cons (Rep.wrK hl h) (Reps.wrK hl q)
end
theorem Rel.wrK (R : Rel K F H r st) (hl : H D = some (.dK ws)) : Rel K F (upd H D o) r st := by
  refine ⟨R.len, R.nd, fun i a xs e1 e2 => ?_, R.apart, fun a ha => ?_⟩
  · obtain ⟨vs, h1, h2⟩ := R.cells i a xs e1 e2
    exact ⟨vs, by rw [upd_ne (by rintro rfl; rw [hl] at h1; cases h1)]; exact h1, h2.wrK hl⟩
  · obtain ⟨vs, e⟩ := R.fs a ha
    exact ⟨vs, by rw [upd_ne (by rintro rfl; rw [hl] at e; cases e)]; exact e⟩
theorem EnvRel.wrK (e : EnvRel K F H r env σ) (hl : H D = some (.dK ws)) : EnvRel K F (upd H D o) r env σ :=
  ⟨e.len, fun i p h => let ⟨v, h1, h2⟩ := e.get i p h; ⟨v, h1, h2.wrK hl⟩⟩
end
/-- one turn -/
noncomputable def dcTurn (C : Ctx) (env : Env) (p : Pt) (e : Ex) : PV → Store → Out (List PV) := fun x st => match asgP p x env with
  | some env1 => (evE C e env1 st).quiet.bind fun y st2 => match y with
    | .int i => .ok [.int i] st2
    | _ => .bad
  | none => .bad
theorem dcTurn_exc (C : Ctx) (env : Env) (p : Pt) (e : Ex) (x : PV) (st : Store) (c : Str) (v : PV) (st' : Store) : dcTurn C env p e x st ≠ .exc c v st' := by
  intro h
  unfold dcTurn at h
  split at h
  · obtain ⟨y, st2, _, h⟩ := quiet_exc h
    cases y <;> cases h
  · cases h
/-- inside: D the dict -/
def DcIn (K : PySem.W.Frag) (F : List Addr) (D : Addr) (r1 : List Addr) (H1 : Hp) (env : Env) (σ : St) (r : List Addr) (st : Store) (acc : List PV) (H : Hp) : Prop :=
  ∃ (kvs : List (Key × V)) (ks ns : List Int), Aft r1 H1 r H ∧ Rel K F H r st ∧ EnvRel K F H r env σ ∧ D ∉ r ∧ H D = some (.dK kvs) ∧ kvs.map (·.1) = ks.map Sum.inl ∧ ks.Nodup ∧ intsOf acc = some ns ∧ (∀ x, x ∈ ks ↔ x ∈ ns) ∧ kvs.length ≤ acc.length
theorem DcIn.go {K : PySem.W.Frag} {F : List Addr} {D : Addr} {r1 : List Addr} {H1 : Hp} {env : Env} {σ : St} {r r' : List Addr} {st st' : Store} {acc : List PV} {H H' : Hp} (L : DcIn K F D r1 H1 env σ r st acc H)
    (A : Aft r H r' H') (R' : Rel K F H' r' st') : DcIn K F D r1 H1 env σ r' st' acc H' := by
  obtain ⟨kvs, ks, ns, a, R, E, n, e, q⟩ := L
  obtain ⟨e2, n2⟩ := A.keep D _ e n
  exact ⟨kvs, ks, ns, a.trans A, R', E.aft R A, n2, e2, q⟩
theorem ints_app1 : ∀ {acc : List PV} {ns : List Int} {i : Int}, intsOf acc = some ns → intsOf (acc ++ [.int i]) = some (ns ++ [i])
  | [], _, i, h => by cases h; rfl
  | .int j :: r, ns, i, h => by
    have h : (intsOf r).map (j :: ·) = some ns := h
    cases h1 : intsOf r with
    | none => rw [h1] at h; cases h
    | some ms =>
      rw [h1] at h
      cases h
      show (intsOf (r ++ [.int i])).map (j :: ·) = _
      rw [ints_app1 h1]; rfl
  | .non :: _, _, _, h => by cases h
  | .bl _ :: _, _, _, h => by cases h
  | .str _ :: _, _, _, h => by cases h
  | .tup _ :: _, _, _, h => by cases h
  | .lsv _ :: _, _, _, h => by cases h
  | .loc _ :: _, _, _, h => by cases h
  | .exn .. :: _, _, _, h => by cases h
theorem len_put {kvs : List (Key × V)} {k : Key} {v : V} : (putK kvs k v).length ≤ kvs.length + 1 := length_putK kvs k v
theorem DcIn.add {K : PySem.W.Frag} {F : List Addr} {D : Addr} {r1 : List Addr} {H1 : Hp} {env : Env} {σ : St} {r : List Addr} {st : Store} {acc : List PV} {H : Hp} {i : Int} (w : V) (L : DcIn K F D r1 H1 env σ r st acc H) (hD : H1 D = none) :
    ∃ kvs, H D = some (.dK kvs) ∧ kvs.length ≤ acc.length ∧ DcIn K F D r1 H1 env σ r st (acc ++ [.int i]) (upd H D (.dK (putK kvs (.inl i) w))) := by
  obtain ⟨kvs, ks, ns, a, R, E, n, e, h1, h2, h3, h4, h5⟩ := L
  obtain ⟨ks', k1, k2, k3⟩ := keys_put (i := i) (v := w) h1 h2
  refine ⟨kvs, e, h5, _, ks', ns ++ [i], ⟨a.pre, fun b o eb nb => ?_⟩, R.wrK e, E.wrK e, n, upd_same, k1, k2, ints_app1 h3, fun x => ?_, ?_⟩
  · obtain ⟨z1, z2⟩ := a.keep b o eb nb
    exact ⟨by rw [upd_ne (ne_of_none eb hD)]; exact z1, z2⟩
  · rw [k3, h4, List.mem_append, List.mem_singleton]
  · have := len_put (kvs := kvs) (k := .inl i) (v := w)
    rw [List.length_append, List.length_singleton]; omega
theorem dc_turns {C : Ctx} {K : PySem.W.Frag} {F : List Addr} {D : Addr} {r1 : List Addr} {H1 : Hp} {env : Env} {σ : St} {p : Pt} {e : Ex} {own : List Nat} {J : It} {xs : List PV} {w : Watch}
    (hD : H1 D = none) (hown : ∀ i ∈ p.slots, i ∈ own) {i : Nat} {r : List Addr} {st : Store} {acc : List PV} {H : Hp} (j : JOk K F J xs w r1 H1)
    (L : DcIn K F D r1 H1 env σ r st acc H) {x : PV} (hx : xs[i]? = some x) (hw : watchOk w st) {ys : List PV} {st' : Store}
    (hf : dcTurn C (wipeE env own) p e x st = .ok ys st') (hz : acc.length + ys.length ≤ sizeLine) (Nx : Hp → Prop) (hN : ∀ H' r', DcIn K F D r1 H1 env σ r' st' (acc ++ ys) H' → Nx H') :
    J.go i H ∧ ∀ x H', J.yld i H x H' → gX K p x (wipe σ own) H' fun σ2 H2 => wipe σ2 own = wipe σ own ∧ tYes σ2 H2 fun b H3 =>
      if b = true then tX K (evE C e) σ2 H3 fun y H4 => tC (.bl true) σ2 H4 fun z H5 => ∃ kvs k, y = kV k ∧ H5 D = some (.dK kvs) ∧ kvs.length < sizeLine ∧ Nx (upd H5 D (.dK (putK kvs k z))) else Nx H3 := by
  obtain ⟨kvs, ks, ns, a, R, E, nD, eD, q⟩ := id L
  obtain ⟨go, yl⟩ := (j F i H r st (fun b hb => .inl hb) a.toF R hw).1 x hx
  refine ⟨go, fun v H' hy => ?_⟩
  obtain ⟨A1, R1, hv⟩ := yl v H' hy
  have L1 := L.go A1 R1
  obtain ⟨_, _, _, _, _, E1, _⟩ := id L1
  unfold dcTurn at hf
  split at hf
  · rename_i env1 he1
    obtain ⟨y, st2, h3, h4⟩ := bind_eq hf
    have h3 := quiet_eq h3
    cases y <;> first | (cases h4; done) | skip
    rename_i iy _
    cases h4
    refine ⟨F, r, st, wipeE env own, x, env1, R1, E1.wipe own, hv, he1, fun σ2 E2 w2 => ⟨(w2 own hown).trans (wipe_wipe σ own own fun _ z => z), ?_⟩⟩
    dsimp only [tYes]
    rw [if_pos rfl]
    refine ⟨F, r, env1, st, R1, E2, ?_⟩
    rw [h3]
    intro v4 H4 r4 A4 R4 hv4
    cases hv4
    obtain ⟨ws, e4, l4, L4⟩ := (L1.go A4 R4).add (i := iy) (.bl true) hD
    refine ⟨ws, .inl iy, rfl, e4, ?_, hN _ r4 L4⟩
    simp only [List.length_singleton] at hz
    omega
  · cases hf
theorem srt_read {C : Ctx} {K : PySem.W.Frag} {F : List Addr} {σ : St} {H : Hp} {W : SW} {Q : VK} {fr : Bool} {own : List Nat} {p : Pt} {it : Ix} {e : Ex} (hown : ∀ i ∈ p.slots, i ∈ own)
    (h : tI K F W (evE C (.srt fr own p it e)) σ H Q) : tCB rSortedD (tCons (tDc (iI K F W (evIx C it)) (gX K p) tYes (tX K (evE C e)) (tC (.bl true)) own) tNil) σ H Q := by
  obtain ⟨r, env, st, R, E, h⟩ := h
  have h : Post K F (W σ) r H Q ((evIx C it env st).bind fun xw st1 => (compF xw.2 (dcTurn C (wipeE env own) p e) xw.1 [] st1).bind fun ys st2 => match intsOf ys with
    | some ns => newL fr ((sortD ns).map .int) st2
    | none => .bad) := h
  refine ⟨r, env, st, R, E, ?_⟩
  cases hi : evIx C it env st with
  | exc => rw [hi] at h; exact h
  | bad => rw [hi] at h; exact h.elim
  | ok xw st1 =>
    rw [hi] at h
    intro H1 r1 J A1 R1 j D hD
    have h : Post K F (W σ) r H Q ((compF xw.2 (dcTurn C (wipeE env own) p e) xw.1 [] st1).bind fun ys st2 => match intsOf ys with
      | some ns => newL fr ((sortD ns).map .int) st2
      | none => .bad) := h
    cases hc : compF xw.2 (dcTurn C (wipeE env own) p e) xw.1 [] st1 with
    | exc => exact absurd hc (compF_exc (dcTurn_exc _ _ _ _))
    | bad => rw [hc] at h; exact h.elim
    | ok zs st2 =>
      rw [hc] at h
      have h : Post K F (W σ) r1 H1 Q (match intsOf zs with
        | some ns => newL fr ((sortD ns).map .int) st2
        | none => .bad) := Post.aft h A1
      have E1 := E.aft R A1
      have nr := (R1.fresh hD).1
      have A0 : Aft r1 H1 r1 (upd H1 D (.dK [])) := .new hD
      refine ⟨fun i m H2 => i ≤ xw.1.length ∧ m = xw.1.length - i ∧ ∃ r2 st3 acc, DcIn K F D r1 H1 env σ r2 st3 acc H2 ∧ compF xw.2 (dcTurn C (wipeE env own) p e) (xw.1.drop i) acc st3 = .ok zs st2,
        ⟨_, Nat.zero_le _, rfl, r1, st1, [], ⟨[], [], [], A0, R1.new hD, E1.aft R1 A0, nr, upd_same, rfl, List.nodup_nil, rfl, fun x => Iff.rfl, Nat.le_refl _⟩, by rw [List.drop_zero]; exact hc⟩, ?_⟩
      rintro i m H2 ⟨hi2, rfl, r2, st3, acc, L, hc2⟩
      by_cases hlt : i < xw.1.length
      · right
        obtain ⟨x, hx, hd⟩ := drop_get hlt
        rw [hd] at hc2
        obtain ⟨hw, ys, st4, hf, hz, hc3⟩ := compF_cons hc2
        have T := dc_turns hD hown j L hx hw hf hz (fun H' => i + 1 ≤ xw.1.length ∧ ∃ r2 st3 acc, DcIn K F D r1 H1 env σ r2 st3 acc H' ∧ compF xw.2 (dcTurn C (wipeE env own) p e) (xw.1.drop (i + 1)) acc st3 = .ok zs st2)
          fun H' r' L' => ⟨hlt, r', st4, acc ++ ys, L', hc3⟩
        exact ⟨T.1, _, fun H' hN => ⟨xw.1.length - (i + 1), by omega, hN.1, rfl, hN.2⟩, T.2⟩
      · left
        have hi3 : i = xw.1.length := by omega
        subst hi3
        rw [List.drop_length] at hc2
        obtain ⟨hw, rfl, rfl⟩ := compF_nil hc2
        obtain ⟨kvs, ks, ns, a, R2, E2, nD, eD, k1, k2, k3, k4, k5⟩ := L
        refine ⟨(j F _ H2 r2 st3 (fun b hb => .inl hb) a.toF R2 hw).2 (Nat.le_refl _), ?_⟩
        rw [k3] at h
        refine ⟨D, kvs, ks, rfl, eD, k1, fun ns' q hp hs hq => ?_⟩
        have e : ns' = sortD ns := srt_of k2 k4 hp hs
        subst e
        have hr : Reps K F H2 r2 ((sortD ns).map V.int) ((sortD ns).map PV.int) := by
          have : ∀ l : List Int, Reps K F H2 r2 (l.map V.int) (l.map PV.int) := by
            intro l
            induction l with
            | nil => exact .nil
            | cons x l ih => exact .cons (.int x) ih
          exact this _
        exact Post.lst R2 (Post.aft h a) hr q hq
end L2.Iv

/-! IvG: expressions do what the language says. Own work. -/
namespace L2.Iv
open PySem PySem.Spec PyProof.Rows

section
variable {X : Cx} {g : Sg} {n : Nat} {N : List Str} {sc so : Scope} {W : WX} {F : List Addr} {e : Expr}
theorem chk_okS {ex : Ex} (h : chkE g N sc ex e = true) : okS e = true := by
  cases ex <;> cases e <;> first | rfl | cases h
theorem chkI_okS {it : Ix} (h : chkI g N sc it e = true) : okS e = true := by
  cases it with
  | val a =>
    unfold chkI at h
    simp only [Bool.and_eq_true] at h
    exact h.1
  | _ => cases e <;> first | rfl | cases h

/-! ### small readings -/
theorem tI_val {K : PySem.W.Frag} {Y : SW} {σ : St} {H : Hp} {Q : VK} {v : V} {p : PV} {f : Env → Store → Out PV} (h : tI K F Y f σ H Q) (hf : ∀ env st, f env st = .ok p st) (hp : ∀ r, Rep K F H r v p) : Q v H := by
  obtain ⟨r, env, st, R, E, h⟩ := h
  rw [hf] at h
  exact h.here R (hp r)
theorem pt_plain (C : Ctx) {ex : Ex} (h : PE X e (tI X.K F (sw X.mg W) (evE C ex))) (he : ∀ whole, isTrue e X.env whole = (do let v ← whole; standAt e.pos; holding [v] (PySem.truthy v))) : PT X e (tIT X.K F (sw X.mg W) (evC C ex)) := by
  refine PT.imp (pt_truth h he) fun σ H Q h => ?_
  obtain ⟨r, env, st, R, E, h⟩ := h
  refine ⟨r, env, st, R, E, ?_⟩
  unfold evC at h
  cases hx : evE C ex env st with
  | exc => rw [hx] at h; exact h
  | bad => rw [hx] at h; exact h.elim
  | ok p st1 =>
    rw [hx] at h
    intro v H1 r1 A1 R1 hv
    simp only [bind_ok] at h
    cases hb : truthy st1 p with
    | none => rw [hb] at h; exact h.elim
    | some b =>
      rw [hb] at h
      exact ⟨b, tru_of R1 hv hb, h H1 r1 A1 R1⟩
theorem PostT.aft {K : PySem.W.Frag} {B : EW} {H H' : Hp} {r r' : List Addr} {Q : Bool → Hp → Prop} {o : Out Bool} (h : PostT K F B r H Q o) (A : Aft r H r' H') : PostT K F B r' H' Q o := by
  cases o with
  | ok p st' => exact fun H2 r2 A2 => h H2 r2 (A.trans A2)
  | exc => exact PostX.aft h A
  | bad => exact h.elim
theorem PostA.aft {K : PySem.W.Frag} {B : EW} {H H' : Hp} {r r' : List Addr} {Q : List V → Hp → Prop} {o : Out (List PV)} (h : PostA K F B r H Q o) (A : Aft r H r' H') : PostA K F B r' H' Q o := by
  cases o with
  | ok p st' => exact fun v H2 r2 A2 => h v H2 r2 (A.trans A2)
  | exc => exact PostX.aft h A
  | bad => exact h.elim
/-- a test ahead of something -/
theorem tIT.step {K : PySem.W.Frag} {Y : SW} {σ : St} {H : Hp} {Q : VK} {o : Env → Store → Out Bool} {f : Bool → Env → Store → Out PV} (h : tI K F Y (fun env st => (o env st).bind fun b st1 => f b env st1) σ H Q) :
    tIT K F Y o σ H fun b H1 => tI K F Y (f b) σ H1 Q := by
  obtain ⟨r, env, st, R, E, h⟩ := h
  refine ⟨r, env, st, R, E, ?_⟩
  dsimp only at h
  cases hx : o env st with
  | exc => rw [hx] at h; exact h
  | bad => rw [hx] at h; exact h.elim
  | ok b st1 =>
    rw [hx] at h
    exact fun H1 r1 A1 R1 => ⟨r1, env, st1, R1, E.aft R A1, h.aft A1⟩
theorem tIT.step2 {K : PySem.W.Frag} {Y : SW} {σ : St} {H : Hp} {Q : Bool → Hp → Prop} {o : Env → Store → Out Bool} {f : Bool → Env → Store → Out Bool} (h : tIT K F Y (fun env st => (o env st).bind fun b st1 => f b env st1) σ H Q) :
    tIT K F Y o σ H fun b H1 => tIT K F Y (f b) σ H1 Q := by
  obtain ⟨r, env, st, R, E, h⟩ := h
  refine ⟨r, env, st, R, E, ?_⟩
  dsimp only at h
  cases hx : o env st with
  | exc => rw [hx] at h; exact h
  | bad => rw [hx] at h; exact h.elim
  | ok b st1 =>
    rw [hx] at h
    exact fun H1 r1 A1 R1 => ⟨r1, env, st1, R1, E.aft R A1, h.aft A1⟩
/-- a value ahead of a test -/
theorem tI.stepT {K : PySem.W.Frag} {Y : SW} {σ : St} {H : Hp} {Q : Bool → Hp → Prop} {o : Env → Store → Out PV} {f : PV → Env → Store → Out Bool} (h : tIT K F Y (fun env st => (o env st).bind fun x st1 => f x env st1) σ H Q) :
    tI K F Y o σ H fun v H1 => ∃ r env st p, Rel K F H1 r st ∧ EnvRel K F H1 r env σ ∧ Rep K F H1 r v p ∧ PostT K F (Y σ) r H1 Q (f p env st) := by
  obtain ⟨r, env, st, R, E, h⟩ := h
  refine ⟨r, env, st, R, E, ?_⟩
  dsimp only at h
  cases hx : o env st with
  | exc => rw [hx] at h; exact h
  | bad => rw [hx] at h; exact h.elim
  | ok b st1 =>
    rw [hx] at h
    exact fun v H1 r1 A1 R1 hv => ⟨r1, env, st1, b, R1, E.aft R A1, hv, h.aft A1⟩
theorem bind_assoc' {α β γ : Type} (o : Out α) (f : α → Store → Out β) (k : β → Store → Out γ) : (o.bind f).bind k = o.bind fun a st => (f a st).bind k := by
  cases o <;> rfl
theorem tI.eq {K : PySem.W.Frag} {Y : SW} {σ : St} {H : Hp} {Q : VK} {o o' : Env → Store → Out PV} (h : tI K F Y o σ H Q) (e : ∀ env st, o env st = o' env st) : tI K F Y o' σ H Q := by
  obtain ⟨r, env, st, R, E, h⟩ := h
  exact ⟨r, env, st, R, E, by rw [← e]; exact h⟩
theorem tIT.eq {K : PySem.W.Frag} {Y : SW} {σ : St} {H : Hp} {Q : Bool → Hp → Prop} {o o' : Env → Store → Out Bool} (h : tIT K F Y o σ H Q) (e : ∀ env st, o env st = o' env st) : tIT K F Y o' σ H Q := by
  obtain ⟨r, env, st, R, E, h⟩ := h
  exact ⟨r, env, st, R, E, by rw [← e]; exact h⟩

/-- two values, by an operation upon them -/
theorem two_read {K : PySem.W.Frag} {Y : SW} {σ : St} {H : Hp} {Q : VK} {oa ob : Env → Store → Out PV} {f : PV → PV → Store → Out PV}
    (h : tI K F Y (fun env st => (oa env st).bind fun x st1 => (ob env st1).bind fun y st2 => f x y st2) σ H Q) :
    tI K F Y oa σ H fun x H1 => tI K F Y ob σ H1 fun y H2 => ∃ r st p q, Rel K F H2 r st ∧ Rep K F H2 r x p ∧ Rep K F H2 r y q ∧ Post K F (Y σ) r H2 Q (f p q st) := by
  obtain ⟨r, env, st, R, E, h⟩ := h
  refine ⟨r, env, st, R, E, ?_⟩
  dsimp only at h
  cases hx : oa env st with
  | exc => rw [hx] at h; exact h
  | bad => rw [hx] at h; exact h.elim
  | ok p st1 =>
    rw [hx] at h
    intro v H1 r1 A1 R1 hv
    have h := h.aft A1
    refine ⟨r1, env, st1, R1, E.aft R A1, ?_⟩
    simp only [bind_ok] at h
    cases hy : ob env st1 with
    | exc => rw [hy] at h; exact h
    | bad => rw [hy] at h; exact h.elim
    | ok q st2 =>
      rw [hy] at h
      exact fun u H2 r2 A2 R2 hu => ⟨r2, st2, p, q, R2, hv.aft R1 A2, hu, h.aft A2⟩
theorem two_readB {K : PySem.W.Frag} {Y : SW} {σ : St} {H : Hp} {Q : VK} {oa ob : Env → Store → Out PV} {f : PV → PV → Store → Out PV}
    (h : tI K F Y (fun env st => (oa env st).bind fun x st1 => (ob env st1).bind fun y st2 => f x y st2) σ H Q) :
    tI K F Y oa σ H fun x H1 => tI K F Y ob σ H1 fun y H2 => ∃ B r st p q, Rel K F H2 r st ∧ Rep K F H2 r x p ∧ Rep K F H2 r y q ∧ Post K F B r H2 Q (f p q st) := by
  obtain ⟨r, env, st, R, E, h⟩ := h
  refine ⟨r, env, st, R, E, ?_⟩
  dsimp only at h
  cases hx : oa env st with
  | exc => rw [hx] at h; exact h
  | bad => rw [hx] at h; exact h.elim
  | ok p st1 =>
    rw [hx] at h
    intro v H1 r1 A1 R1 hv
    have h := h.aft A1
    refine ⟨r1, env, st1, R1, E.aft R A1, ?_⟩
    simp only [bind_ok] at h
    cases hy : ob env st1 with
    | exc => rw [hy] at h; exact h
    | bad => rw [hy] at h; exact h.elim
    | ok q st2 =>
      rw [hy] at h
      exact fun u H2 r2 A2 R2 hu => ⟨_, r2, st2, p, q, R2, hv.aft R1 A2, hu, h.aft A2⟩
theorem two_readT {K : PySem.W.Frag} {Y : SW} {σ : St} {H : Hp} {Q : Bool → Hp → Prop} {oa ob : Env → Store → Out PV} {f : PV → PV → Store → Out Bool}
    (h : tIT K F Y (fun env st => (oa env st).bind fun x st1 => (ob env st1).bind fun y st2 => f x y st2) σ H Q) :
    tI K F Y oa σ H fun x H1 => tI K F Y ob σ H1 fun y H2 => ∃ r st p q, Rel K F H2 r st ∧ Rep K F H2 r x p ∧ Rep K F H2 r y q ∧ PostT K F (Y σ) r H2 Q (f p q st) := by
  obtain ⟨r, env, st, R, E, h⟩ := h
  refine ⟨r, env, st, R, E, ?_⟩
  dsimp only at h
  cases hx : oa env st with
  | exc => rw [hx] at h; exact h
  | bad => rw [hx] at h; exact h.elim
  | ok p st1 =>
    rw [hx] at h
    intro v H1 r1 A1 R1 hv
    have h := h.aft A1
    refine ⟨r1, env, st1, R1, E.aft R A1, ?_⟩
    simp only [bind_ok] at h
    cases hy : ob env st1 with
    | exc => rw [hy] at h; exact h
    | bad => rw [hy] at h; exact h.elim
    | ok q st2 =>
      rw [hy] at h
      exact fun u H2 r2 A2 R2 hu => ⟨r2, st2, p, q, R2, hv.aft R1 A2, hu, h.aft A2⟩
theorem postT_of {K : PySem.W.Frag} {B : EW} {H : Hp} {r : List Addr} {st : Store} {Q : Bool → Hp → Prop} {o : Option Bool} (R : Rel K F H r st) (h : PostT K F B r H Q (Out.of o st)) : ∃ b, o = some b ∧ Q b H := by
  cases o with
  | none => exact h.elim
  | some b => exact ⟨b, rfl, h H r .refl R⟩
theorem post_cmp {K : PySem.W.Frag} {B : EW} {H : Hp} {r : List Addr} {st : Store} {Q : VK} {o : Option Bool} (R : Rel K F H r st) (h : Post K F B r H Q ((Out.of o st).bind fun b st3 => .ok (.bl b) st3)) : ∃ b, o = some b ∧ Q (.bl b) H := by
  cases o with
  | none => exact h.elim
  | some b => exact ⟨b, rfl, Post.here R h (.bl b)⟩
theorem post_tru {K : PySem.W.Frag} {B : EW} {H : Hp} {r : List Addr} {st : Store} {Q : Bool → Hp → Prop} {o : Option Bool} (R : Rel K F H r st) (h : PostT K F B r H Q (((Out.of o st).bind fun b st3 => .ok (PV.bl b) st3).bind fun x st1 => Out.of (truthy st1 x) st1)) : ∃ b, o = some b ∧ Q b H := by
  cases o with
  | none => exact h.elim
  | some b => exact ⟨b, rfl, h H r .refl R⟩
theorem reps_perm {K : PySem.W.Frag} {H : Hp} {r : List Addr} {vs : List V} {ps : List PV} (h : Reps K F H r vs ps) : ∀ (perm : List Nat) (zs : List PV), perm.mapM (fun i => ps[i]?) = some zs → Reps K F H r (perm.map fun i => vs.getD i .non) zs
  | [], zs, e => by
    simp at e; subst e; exact .nil
  | i :: perm, zs, e => by
    simp only [List.mapM_cons, Option.bind_eq_bind, Option.bind_eq_some_iff] at e
    obtain ⟨z, e1, zs', e2, e3⟩ := e
    cases e3
    obtain ⟨v, e4, hv⟩ := h.get2 e1
    rw [List.map_cons]
    have : vs.getD i .non = v := by rw [List.getD_eq_getElem?_getD, e4]; rfl
    rw [this]
    exact .cons hv (reps_perm h perm zs' e2)
theorem vals_perm {vs : List V} {us : List Value} (h : Vals vs us) : ∀ perm : List Nat, Vals (perm.map fun i => vs.getD i .non) (perm.map fun i => us.getD i .none)
  | [] => .nil
  | i :: perm => by
    rw [List.map_cons, List.map_cons]
    refine .cons ?_ (vals_perm h perm)
    rw [List.getD_eq_getElem?_getD, List.getD_eq_getElem?_getD]
    cases e : vs[i]? with
    | none => rw [h.none_of e]; exact rfl
    | some v =>
      obtain ⟨u, e2, r⟩ := h.get e
      rw [e2]; exact r
theorem kw_facts : ∀ (kws : List Keyword), kws.all (fun k => k.arg.isSome) = true → ∀ (pos : Pos) (env : PySem.Env),
    (backToKw pos (keywordEach kws env)).all (·.1.isSome) = true ∧ (backToKw pos (keywordEach kws env)).filterMap (·.1) = kwNames kws ∧ (backToKw pos (keywordEach kws env)).any (·.1.isNone) = false
  | [], _, _, _ => ⟨rfl, rfl, rfl⟩
  | ⟨some k, v, p⟩ :: r, h, pos, env => by
    simp only [List.all_cons, Bool.and_eq_true] at h
    obtain ⟨h1, h2, h3⟩ := kw_facts r h.2 pos env
    refine ⟨?_, ?_, ?_⟩
    · show (true && (backToKw pos (keywordEach r env)).all (·.1.isSome)) = true
      rw [h1]; rfl
    · show k :: (backToKw pos (keywordEach r env)).filterMap (·.1) = k :: kwNames r
      rw [h2]
    · show (false || (backToKw pos (keywordEach r env)).any (·.1.isNone)) = false
      rw [h3]; rfl
  | ⟨none, v, p⟩ :: r, h, pos, env => by simp at h
theorem kwNames_len : ∀ (kws : List Keyword), kws.all (fun k => k.arg.isSome) = true → (kwNames kws).length = kws.length
  | [], _ => rfl
  | ⟨some k, v, p⟩ :: r, h => by
    simp only [List.all_cons, Bool.and_eq_true] at h
    exact congrArg (· + 1) (kwNames_len r h.2)
  | ⟨none, v, p⟩ :: r, h => by simp at h
theorem boot_bi (f : Bi) : bootBuiltins (biName f) = some (biVal f) := by cases f <;> decide +kernel
theorem boot_ty {T : String} (h : T ∈ tyNames) : bootBuiltins (Str.ofString T) = some (.type T) := by
  simp only [tyNames, List.mem_cons, List.not_mem_nil, or_false] at h
  rcases h with rfl | rfl | rfl | rfl | rfl <;> decide +kernel
theorem name_bi (f : Bi) : biName f ≠ "__name__" := by cases f <;> decide
theorem name_ty {T : String} (h : T ∈ tyNames) : (Str.ofString T) ≠ ("__name__" : Str) := by
  simp only [tyNames, List.mem_cons, List.not_mem_nil, or_false] at h
  rcases h with rfl | rfl | rfl | rfl | rfl <;> decide
theorem Std.gl (S : Std X g n N sc so W) {x : Str} (h : glb sc x = true) : Gl X x ∧ (x == ("__debug__" : Str)) = false := by
  obtain ⟨h1, h2⟩ := glb_of h
  refine ⟨?_, h2⟩
  show X.env.scope.names.lookup x = _
  rw [S.eS]; exact h1
end
end L2.Iv

/-! IvH: expressions do what the language says: the induction. Own work. -/
namespace L2.Iv
open PySem PySem.Spec PyProof.Rows

theorem pt_if {X : Cx} {c a b : Expr} {tc ta tb : TT} {pos : Pos} (hc : PT X c tc) (ha : PT X a ta) (hb : PT X b tb) : PT X (.IfExp c a b pos) (fun σ H Q => tc σ H fun k H1 => if k = true then ta σ H1 Q else tb σ H1 Q) := by
  refine ⟨fun pins s σ H Q I h => ?_⟩
  refine isTrue_IfExp (thn (hc.run pins s σ H _ I h) fun k s1 ⟨H1, I1, q⟩ => ?_)
  cases k with
  | true => exact ha.run pins s1 σ H1 Q I1 q
  | false => exact hb.run pins s1 σ H1 Q I1 q
theorem evAnd_test (C : Ctx) (a b : Ex) (es : Exs) (env : Env) (st : Store) : ((evAnd C (.cons a (.cons b es)) env st).bind fun x st1 => Out.of (truthy st1 x) st1) =
    (evC C a env st).bind fun k st1 => if k = true then (evAnd C (.cons b es) env st1).bind fun x st1 => Out.of (truthy st1 x) st1 else .ok false st1 := by
  unfold evC
  rw [evAnd]
  cases evE C a env st with
  | ok x st1 =>
    simp only [bind_ok]
    cases e : truthy st1 x with
    | none => rfl
    | some k =>
      cases k with
      | true => rfl
      | false => simp only [bind_ok, e, of_some]; rfl
  | exc => rfl
  | bad => rfl
  · intro e; cases e
theorem evOr_test (C : Ctx) (a b : Ex) (es : Exs) (env : Env) (st : Store) : ((evOr C (.cons a (.cons b es)) env st).bind fun x st1 => Out.of (truthy st1 x) st1) =
    (evC C a env st).bind fun k st1 => if k = true then .ok true st1 else (evOr C (.cons b es) env st1).bind fun x st1 => Out.of (truthy st1 x) st1 := by
  unfold evC
  rw [evOr]
  cases evE C a env st with
  | ok x st1 =>
    simp only [bind_ok]
    cases e : truthy st1 x with
    | none => rfl
    | some k =>
      cases k with
      | false => rfl
      | true => simp only [bind_ok, e, of_some]; rfl
  | exc => rfl
  | bad => rfl
  · intro e; cases e

section
variable {X : Cx} {g : Sg} {n : Nat} {N : List Str} {sc so : Scope} {W : WX} {F : List Addr} {e : Expr}
theorem snd_c (v : PV) (h : chkE g N sc (.c v) e = true) : PE X e (tI X.K F (sw X.mg W) (evE (g.ctx (clOf X.mg) n) (.c v))) ∧ PT X e (tIT X.K F (sw X.mg W) (evC (g.ctx (clOf X.mg) n) (.c v))) := by
  cases e <;> first | (cases h; done) | skip
  rename_i k kk pos
  have h : cstOk v k = true := h
  have main : PE X (.Constant k kk pos) (tI X.K F (sw X.mg W) (evE (g.ctx (clOf X.mg) n) (.c v))) := by
    cases v <;> cases k <;> first | (cases h; done) | skip
    · exact PE.imp pe_non fun σ H Q q => tI_val q (fun _ _ => rfl) fun r => .non
    · simp only [cstOk, beq_iff_eq] at h
      subst h
      exact PE.imp pe_bl fun σ H Q q => tI_val q (fun _ _ => rfl) fun r => .bl _
    · simp only [cstOk, beq_iff_eq] at h
      subst h
      exact PE.imp pe_int fun σ H Q q => tI_val q (fun _ _ => rfl) fun r => .int _
    · simp only [cstOk, beq_iff_eq] at h
      subst h
      exact PE.imp pe_str fun σ H Q q => tI_val q (fun _ _ => rfl) fun r => .str _
  exact ⟨main, pt_plain _ main fun _ => rfl⟩
theorem snd_v (S : Std X g n N sc so W) (i : Nat) (h : chkE g N sc (.v i) e = true) : PE X e (tI X.K F (sw X.mg W) (evE (g.ctx (clOf X.mg) n) (.v i))) ∧ PT X e (tIT X.K F (sw X.mg W) (evC (g.ctx (clOf X.mg) n) (.v i))) := by
  cases e <;> first | (cases h; done) | skip
  rename_i x pos
  have h : nmOk N sc i x = true := h
  simp only [nmOk, Bool.and_eq_true, decide_eq_true_eq, Bool.not_eq_true'] at h
  have main : PE X (.Name x pos) (tI X.K F (sw X.mg W) (evE (g.ctx (clOf X.mg) n) (.v i))) := by
    refine PE.imp (pe_var (i := i) (by rw [S.eN]; exact h.1.1.1) (by rw [S.eS]; exact vis_of h.1.1.2) h.1.2 h.2) fun σ H Q q => ?_
    obtain ⟨r, env, st, R, E, q⟩ := q
    simp only [evE] at q
    split at q
    · rename_i p e1
      obtain ⟨v, e2, hv⟩ := E.get i p e1
      exact ⟨v, e2, q.here R hv⟩
    · exact q.elim
  exact ⟨main, pt_plain _ main fun _ => rfl⟩
theorem snd_g (S : Std X g n N sc so W) (y : Str) (h : chkE g N sc (.g y) e = true) : PE X e (tI X.K F (sw X.mg W) (evE (g.ctx (clOf X.mg) n) (.g y))) ∧ PT X e (tIT X.K F (sw X.mg W) (evC (g.ctx (clOf X.mg) n) (.g y))) := by
  cases e <;> first | (cases h; done) | skip
  rename_i x pos
  have h : (decide (x = y) && glb sc x && (g.gl.lookup x).isSome) = true := h
  simp only [Bool.and_eq_true, decide_eq_true_eq] at h
  obtain ⟨⟨rfl, h1⟩, h2⟩ := h
  obtain ⟨p, hp⟩ := Option.isSome_iff_exists.mp h2
  obtain ⟨u, v, hm, rv, rep⟩ := S.link.gl x p hp
  obtain ⟨hg, hd⟩ := S.gl h1
  have main : PE X (.Name x pos) (tI X.K F (sw X.mg W) (evE (g.ctx (clOf X.mg) n) (.g x))) := by
    refine PE.imp (pe_glob hg hm rv hd) fun σ H Q q => tI_val (p := p) q (fun env st => ?_) fun r => rep F H r
    simp only [evE]
    show Out.of (g.gl.lookup x) st = _
    rw [hp]; rfl
  exact ⟨main, pt_plain _ main fun _ => rfl⟩
theorem snd_fld (S : Std X g n N sc so W) (i : Nat) (h : chkE g N sc (.fld i) e = true) : PE X e (tI X.K F (sw X.mg W) (evE (g.ctx (clOf X.mg) n) (.fld i))) ∧ PT X e (tIT X.K F (sw X.mg W) (evC (g.ctx (clOf X.mg) n) (.fld i))) := by
  cases e <;> first | (cases h; done) | skip
  rename_i oe y pos
  cases oe <;> first | (cases h; done) | skip
  rename_i x px
  have h : (nmOk N sc i x && decide (y = ("value" : Str))) = true := h
  simp only [nmOk, Bool.and_eq_true, decide_eq_true_eq, Bool.not_eq_true'] at h
  obtain ⟨hy, rfl⟩ := h
  have ho : PE X (.Name x px) (tVar i) := pe_var (i := i) (by rw [S.eN]; exact hy.1.1.1) (by rw [S.eS]; exact vis_of hy.1.1.2) hy.1.2 hy.2
  have main : PE X (.Attribute (.Name x px) "value" pos) (tI X.K F (sw X.mg W) (evE (g.ctx (clOf X.mg) n) (.fld i))) := by
    refine PE.imp (pe_fv ho rfl) fun σ H Q q => ?_
    obtain ⟨r, env, st, R, E, q⟩ := q
    simp only [evE] at q
    split at q
    · rename_i c D v e1
      obtain ⟨u, e2, hu⟩ := E.get i _ e1
      split at q
      · rename_i hc
        obtain ⟨anc, hanc⟩ := Option.isSome_iff_exists.mp hc.2
        obtain ⟨C, T⟩ := S.link.ec c anc hanc
        cases hu with
        | @exn a _ dd _ w _ h1 h2 h3 =>
          have eD : D = C := hc.1.trans (clOf_eq T.mgc)
          subst eD
          exact ⟨_, e2, a, D, dd, w, rfl, h1, h2, T.kit, q.here R h3⟩
      · exact q.elim
    · exact q.elim
  exact ⟨main, pt_plain _ main fun _ => rfl⟩
theorem cool_of {b : Bool} (h : (!g.hot && b) = true) : g.hot = false ∧ b = true := by
  rw [Bool.and_eq_true, Bool.not_eq_true'] at h
  exact h
/-- a class of errors that is named -/
theorem exn_of (S : Std X g n N sc so W) {c : Str} (h : excOk g c = true) : ∃ cv u, ExN X.mg g c cv u := by
  unfold excOk at h
  rw [Bool.or_eq_true, Bool.and_eq_true, decide_eq_true_eq, decide_eq_true_eq] at h
  rcases h with h | ⟨h1, h2⟩
  · obtain ⟨anc, hanc⟩ := Option.isSome_iff_exists.mp h
    obtain ⟨C, T⟩ := S.link.ec c anc hanc
    exact ⟨_, _, .own hanc T.mgc⟩
  · exact ⟨_, _, .ve h1 (S.link.bs c h2)⟩
theorem pe_exn (S : Std X g n N sc so W) {c : Str} {cv : V} {u : Value} {p : Pos} (h : ExN X.mg g c cv u) (hg : glb sc c = true) : PE X (.Name c p) (tC cv) := by
  obtain ⟨hgl, hd⟩ := S.gl hg
  cases h with
  | own h1 h2 => exact pe_glob hgl h2 rfl hd
  | ve h1 h2 =>
    subst h1
    exact pe_bltn hgl h2 PyProof.Rows.Boot.«ValueError» rfl (by decide) hd
theorem ExN.cls {mg : Str → Option Value} {c : Str} {cv : V} {u : Value} (h : ExN mg g c cv u) : ClsV cv u := by
  cases h with
  | own => exact .own _
  | ve => exact .ty _
theorem ExN.none (S : Std X g n N sc so W) {c : Str} {cv : V} {u : Value} (h : ExN X.mg g c cv u) : PySem.W.kitOne X.K (.type "NoneType") u = some false := by
  cases h with
  | own h1 h2 =>
    obtain ⟨C, T⟩ := S.link.ec _ _ h1
    have := T.mgc
    rw [h2] at this
    cases this
    exact T.nn
  | ve => exact kit_ty (by decide +kernel)
theorem sub_call (S : Std X g n N sc so W) (hh : g.hot = false) (f : Str) {x : Str} {a : Expr} {ees : List Expr} {p pos : Pos} {es : Exs} (hx : x = f) (hg : glb sc x = true) (ht : (g.tb.lookup f).isSome = true) (hs : (a :: ees).all okS = true) (hl : es.length = (a :: ees).length)
    (ha : PA X (a :: ees) (tIA X.K F (sw X.mg W) (evEs (g.ctx (clOf X.mg) n) es))) : PE X (.Call (.Name x p) (a :: ees) [] pos) (tI X.K F (sw X.mg W) (evE (g.ctx (clOf X.mg) n) (.call f es))) := by
  subst hx
  obtain ⟨fn, hf⟩ := Option.isSome_iff_exists.mp ht
  obtain ⟨ad, fd, hm, hk, G, hb, _⟩ := S.link.fn x fn hf
  obtain ⟨hgl, hd⟩ := S.gl hg
  have hs2 := List.all_cons ▸ hs
  simp only [Bool.and_eq_true] at hs2
  refine PE.imp (pe_cG G (hh ▸ S.cal) S.tk hgl hm hk hb ha hd (okS_star hs2.1 _ _) (okS_any hs2.2 _ _)) fun σ H Q q => ?_
  obtain ⟨r, env, st, R, E, q⟩ := q
  refine ⟨r, env, st, R, E, ?_⟩
  simp only [evE] at q
  cases h1 : evEs (g.ctx (clOf X.mg) n) es env st with
  | exc => rw [h1] at q; exact q
  | bad => rw [h1] at q; exact q.elim
  | ok ps st1 =>
    rw [h1] at q
    exact fun vs H1 r1 A1 R1 hv => ⟨F, r1, st1, ps, R1, hv, q.aft A1⟩
theorem kw_read {K : PySem.W.Frag} {mg : Str → Option Value} {f : Str} {es ks : Exs} {perm : List Nat} {σ : St} {H : Hp} {Q : VK} {a b : Nat} (ha : ∀ (env : Env) st ps st1, evEs (g.ctx (clOf mg) n) es env st = .ok ps st1 → ps.length = a) (hb : ∀ (env : Env) st ps st1, evEs (g.ctx (clOf mg) n) ks env st = .ok ps st1 → ps.length = b)
    (q : tI K F (sw mg W) (evE (g.ctx (clOf mg) n) (.callk f es ks perm)) σ H Q) : tIA K F (sw mg W) (evEs (g.ctx (clOf mg) n) es) σ H fun vs H1 => vs.length = a ∧ tIA K F (sw mg W) (evEs (g.ctx (clOf mg) n) ks) σ H1 fun zs H2 => zs.length = b ∧ spI K mg g n f (perm.map fun i => (vs ++ zs).getD i .non) H2 Q (xAt W σ) := by
  obtain ⟨r, env, st, R, E, q⟩ := q
  refine ⟨r, env, st, R, E, ?_⟩
  simp only [evE] at q
  cases h1 : evEs (g.ctx (clOf mg) n) es env st with
  | exc => rw [h1] at q; exact q
  | bad => rw [h1] at q; exact q.elim
  | ok ps st1 =>
    rw [h1] at q
    intro vs H1 r1 A1 R1 hv
    refine ⟨by rw [hv.length]; exact ha _ _ _ _ h1, r1, env, st1, R1, E.aft R A1, ?_⟩
    have q := q.aft A1
    simp only [bind_ok] at q
    cases h2 : evEs (g.ctx (clOf mg) n) ks env st1 with
    | exc => rw [h2] at q; exact q
    | bad => rw [h2] at q; exact q.elim
    | ok ps2 st2 =>
      rw [h2] at q
      intro zs H2 r2 A2 R2 hz
      refine ⟨by rw [hz.length]; exact hb _ _ _ _ h2, ?_⟩
      have q := q.aft A2
      simp only [bind_ok] at q
      split at q
      · rename_i ws e1
        exact ⟨F, r2, st2, ws, R2, reps_perm ((hv.aft R1 A2).append hz) perm ws e1, q⟩
      · exact q.elim
theorem evEs_len (C : Ctx) : ∀ (es : Exs) (env : Env) (st : Store) (ps : List PV) (st1 : Store), evEs C es env st = .ok ps st1 → ps.length = es.length
  | .nil, env, st, ps, st1, h => by simp only [evEs] at h; cases h; rfl
  | .cons e es, env, st, ps, st1, h => by
    simp only [evEs] at h
    obtain ⟨x, st2, _, h2⟩ := bind_eq h
    obtain ⟨xs, st3, h3, h4⟩ := bind_eq h2
    cases h4
    exact congrArg (· + 1) (evEs_len C es env st2 xs _ h3)
theorem bi_read {cl : Str → Nat} {K : PySem.W.Frag} {Y : SW} {f : Bi} {fr : Bool} {es : Exs} {σ : St} {H : Hp} {Q : VK} (q : tI K F Y (evE (g.ctx cl n) (.bi f fr es)) σ H Q) : tIA K F Y (evEs (g.ctx cl n) es) σ H fun vs H1 => rBi K F f fr vs H1 Q := by
  obtain ⟨r, env, st, R, E, q⟩ := q
  refine ⟨r, env, st, R, E, ?_⟩
  simp only [evE] at q
  cases h1 : evEs (g.ctx cl n) es env st with
  | exc => rw [h1] at q; exact q
  | bad => rw [h1] at q; exact q.elim
  | ok ps st1 =>
    rw [h1] at q
    exact fun vs H1 r1 A1 R1 hv => ⟨_, r1, st1, ps, R1, hv, q.aft A1⟩
theorem sub_bi (S : Std X g n N sc so W) (f : Bi) (fr : Bool) {x : Str} {a : Expr} {ees : List Expr} {p pos : Pos} {es : Exs} (hx : x = biName f) (hg : glb sc x = true) (hb : x ∈ g.bs) (hf : g.hot = false ∨ coolBi f = true) (hs : (a :: ees).all okS = true)
    (ha : PA X (a :: ees) (tIA X.K F (sw X.mg W) (evEs (g.ctx (clOf X.mg) n) es))) : PE X (.Call (.Name x p) (a :: ees) [] pos) (tI X.K F (sw X.mg W) (evE (g.ctx (clOf X.mg) n) (.bi f fr es))) := by
  obtain ⟨hgl, hd⟩ := S.gl hg
  have hm := S.link.bs x hb
  have hs2 := List.all_cons ▸ hs
  simp only [Bool.and_eq_true] at hs2
  have hv : bootBuiltins x = some (biVal f) := by rw [hx]; exact boot_bi f
  have hn : x ≠ "__name__" := by rw [hx]; exact name_bi f
  have hc := call_bi (F := F) (n + 2) S.cal f fr hf
  have h1 := okS_star hs2.1 ees X.env
  have h2 := okS_any hs2.2 pos X.env
  cases f <;> first
    | exact PE.imp (pe_callB hc hgl hm hv ha hn hd h1 h2) fun σ H Q q => bi_read q
    | exact PE.imp (pe_callTy hc hgl hm hv ha hn hd h1 h2) fun σ H Q q => bi_read q
theorem me_read {cl : Str → Nat} {K : PySem.W.Frag} {Y : SW} {m : Me} {i : Nat} {es : Exs} {σ : St} {H : Hp} {Q : VK} (q : tI K F Y (evE (g.ctx cl n) (.me m i es)) σ H Q) :
    ∃ x, σ[i]? = some (some x) ∧ tyV K "list" x H ∧ tIA K F Y (evEs (g.ctx cl n) es) σ H fun vs H1 => rMe K F m x vs H1 Q := by
  obtain ⟨r, env, st, R, E, q⟩ := q
  simp only [evE] at q
  split at q
  · rename_i l e1
    obtain ⟨v, e2, hv⟩ := E.get i _ e1
    cases hv with
    | @loc a _ hl =>
      obtain ⟨xs, ws, c1, c2, _⟩ := R.cell hl
      refine ⟨_, e2, .inl ⟨rfl, _, .of c2⟩, r, env, st, R, E, ?_⟩
      cases h1 : evEs (g.ctx cl n) es env st with
      | exc => rw [h1] at q; exact q
      | bad => rw [h1] at q; exact q.elim
      | ok ps st1 =>
        rw [h1] at q
        exact fun vs H1 r1 A1 R1 hv => ⟨_, r1, st1, l, a, ps, rfl, R1, A1.get hl, hv, q.aft A1⟩
  · exact q.elim
theorem sub_me (S : Std X g n N sc so W) (m : Me) (i : Nat) {x y : Str} {ees : List Expr} {py apos cpos : Pos} {es : Exs} (hy : nmOk N sc i y = true) (hx : x = meName m) (hline : (apos.endLine == cpos.line) = true) (hl : ees.length ≤ 1) (hs : ees.all okS = true)
    (ha : PA X ees (tIA X.K F (sw X.mg W) (evEs (g.ctx (clOf X.mg) n) es))) (hes : es.length = ees.length) : PE X (.Call (.Attribute (.Name y py) x apos) ees [] cpos) (tI X.K F (sw X.mg W) (evE (g.ctx (clOf X.mg) n) (.me m i es))) := by
  simp only [nmOk, Bool.and_eq_true, decide_eq_true_eq, Bool.not_eq_true'] at hy
  have ho : PE X (.Name y py) (tVar i) := pe_var (i := i) (by rw [S.eN]; exact hy.1.1.1) (by rw [S.eS]; exact vis_of hy.1.1.2) hy.1.2 hy.2
  have hm := mt_me (X := X) (F := F) m
  subst hx
  match ees, hl, hs, ha, hes with
  | [], _, _, ha, hes =>
    have main : ∀ {name : Str} {id : String} {r}, Slot "list" name id → typeOf (.builtin id) = pure (.type "method_descriptor") → MtR X id r → PE X (.Call (.Attribute (.Name y py) name apos) [] [] cpos) (tBM0 X.K "list" r (tVar i)) :=
      fun s t h => pe_bm0 PySem.F.plainAttrs_list s t h ho rfl hline
    have rd : ∀ σ H Q, tI X.K F (sw X.mg W) (evE (g.ctx (clOf X.mg) n) (.me m i es)) σ H Q → tBM0 X.K "list" (rMe X.K F m) (tVar i) σ H Q := fun σ H Q q => by
      obtain ⟨x, e1, ty, r, env, st, R, E, q⟩ := me_read q
      refine ⟨x, e1, ty, ?_⟩
      cases es with
      | nil => exact q [] H r .refl R .nil
      | cons _ _ => cases hes
    cases m with
    | append => exact PE.imp (main PySem.F.slot_list_append PySem.F.type_list_append hm) rd
    | extend => exact PE.imp (main PySem.F.slot_list_extend PySem.F.type_list_extend hm) rd
    | pop => exact PE.imp (main PySem.F.slot_list_pop PySem.F.type_list_pop hm) rd
  | [a], _, hs, ha, _ =>
    have hs2 := List.all_cons ▸ hs
    simp only [Bool.and_eq_true] at hs2
    have h1 := okS_star hs2.1 [] X.env
    have main : ∀ {name : Str} {id : String} {r}, Slot "list" name id → typeOf (.builtin id) = pure (.type "method_descriptor") → MtR X id r → PE X (.Call (.Attribute (.Name y py) name apos) [a] [] cpos) (tBM X.K "list" r (tVar i) (tIA X.K F (sw X.mg W) (evEs (g.ctx (clOf X.mg) n) es))) :=
      fun s t h => pe_bm PySem.F.plainAttrs_list s t h ho ha rfl (by rw [h1]; rfl) hline h1 rfl
    have rd : ∀ σ H Q, tI X.K F (sw X.mg W) (evE (g.ctx (clOf X.mg) n) (.me m i es)) σ H Q → tBM X.K "list" (rMe X.K F m) (tVar i) (tIA X.K F (sw X.mg W) (evEs (g.ctx (clOf X.mg) n) es)) σ H Q := fun σ H Q q => by
      obtain ⟨x, e1, ty, q⟩ := me_read q
      exact ⟨x, e1, ty, q⟩
    cases m with
    | append => exact PE.imp (main PySem.F.slot_list_append PySem.F.type_list_append hm) rd
    | extend => exact PE.imp (main PySem.F.slot_list_extend PySem.F.type_list_extend hm) rd
    | pop => exact PE.imp (main PySem.F.slot_list_pop PySem.F.type_list_pop hm) rd
  | _ :: _ :: _, hl, _, _, _ => simp at hl
end
end L2.Iv

/-! IvI: expressions do what the language says: the induction itself. Own work. -/
namespace L2.Iv
open PySem PySem.Spec PyProof.Rows

section
variable {X : Cx} {g : Sg} {n : Nat} {N : List Str} {sc so : Scope} {W : WX} {F : List Addr} {e : Expr}
theorem in_last {op : CmpOp} {b : Expr} (h : okS b = true) : behindInMarks op b = false := okS_in h op
theorem last_marks {op op' : CmpOp} {b c : Expr} (h : okS c = true) : lastMarks [op, op'] [b, c] = false := okS_in h op'
/-- what the induction says of a list of expressions -/
structure SndEs (X : Cx) (W : WX) (g : Sg) (n : Nat) (es : Exs) (ees : List Expr) : Prop where
  ok : ees.all okS = true
  len : es.length = ees.length
  pa : ∀ F, PA X ees (tIA X.K F (sw X.mg W) (evEs (g.ctx (clOf X.mg) n) es))
  pk : ∀ (kws : List Keyword), kws.map (·.value) = ees → ∀ F, PK X kws (tIA X.K F (sw X.mg W) (evEs (g.ctx (clOf X.mg) n) es))
  and : ees ≠ [] → ∀ F pos, PE X (.BoolOp .And ees pos) (tI X.K F (sw X.mg W) (evAnd (g.ctx (clOf X.mg) n) es)) ∧ PW X (.BoolOp .And ees pos) (tIT X.K F (sw X.mg W) fun env st => (evAnd (g.ctx (clOf X.mg) n) es env st).bind fun x st1 => Out.of (truthy st1 x) st1)
  or : ees ≠ [] → ∀ F pos, PE X (.BoolOp .Or ees pos) (tI X.K F (sw X.mg W) (evOr (g.ctx (clOf X.mg) n) es)) ∧ PW X (.BoolOp .Or ees pos) (tIT X.K F (sw X.mg W) fun env st => (evOr (g.ctx (clOf X.mg) n) es env st).bind fun x st1 => Out.of (truthy st1 x) st1)
  ts : ees.length ≤ 1 → PTs X ees (tTX X.K (evTests (g.ctx (clOf X.mg) n) es))
theorem PW.imp {e : Expr} {t t' : TT} (h : PW X e t) (i : ∀ σ H Q, t' σ H Q → t σ H Q) : PW X e t' := ⟨fun w pins s σ H Q I q => h.run w pins s σ H Q I (i _ _ _ q)⟩
theorem PTs.imp {e : List Expr} {t t' : TT} (h : PTs X e t) (i : ∀ σ H Q, t' σ H Q → t σ H Q) : PTs X e t' := ⟨fun pins s σ H Q I q => h.run pins s σ H Q I (i _ _ _ q)⟩
theorem PI.imp {tg e : Expr} {t t' : TI} (h : PI X tg e t) (i : ∀ σ H Q, t' σ H Q → t σ H Q) : PI X tg e t' := ⟨fun pins s σ H Q I q => h.run pins s σ H Q I (i _ _ _ q)⟩
theorem PK.imp {e : List Keyword} {t t' : TA} (h : PK X e t) (i : ∀ σ H Q, t' σ H Q → t σ H Q) : PK X e t' := ⟨fun pos pins s σ H Q I q => h.run pos pins s σ H Q I (i _ _ _ q)⟩
theorem PostX.no {K : PySem.W.Frag} {B : EW} {σ : St} {H : Hp} {r : List Addr} {c : Str} {p : PV} {st : Store} (h : PostX K F (noS σ) r H c p st) : PostX K F B r H c p st := fun v H' r' A R q => (h v H' r' A R q).elim
theorem tI.no {K : PySem.W.Frag} {Y : SW} {o : Env → Store → Out PV} {σ : St} {H : Hp} {Q : VK} (h : tI K F noS o σ H Q) : tI K F Y o σ H Q := by
  obtain ⟨r, env, st, R, E, h⟩ := h
  refine ⟨r, env, st, R, E, ?_⟩
  cases hx : o env st with
  | ok => rw [hx] at h; exact h
  | exc => rw [hx] at h; exact PostX.no h
  | bad => rw [hx] at h; exact h
theorem tIT.no {K : PySem.W.Frag} {Y : SW} {o : Env → Store → Out Bool} {σ : St} {H : Hp} {Q : Bool → Hp → Prop} (h : tIT K F noS o σ H Q) : tIT K F Y o σ H Q := by
  obtain ⟨r, env, st, R, E, h⟩ := h
  refine ⟨r, env, st, R, E, ?_⟩
  cases hx : o env st with
  | ok => rw [hx] at h; exact h
  | exc => rw [hx] at h; exact PostX.no h
  | bad => rw [hx] at h; exact h
theorem iI.no {K : PySem.W.Frag} {Y : SW} {o : Env → Store → Out (List PV × Watch)} {σ : St} {H : Hp} {Q : It → Hp → Prop} (h : iI K F noS o σ H Q) : iI K F Y o σ H Q := by
  obtain ⟨r, env, st, R, E, h⟩ := h
  refine ⟨r, env, st, R, E, ?_⟩
  cases hx : o env st with
  | ok => rw [hx] at h; exact h
  | exc => rw [hx] at h; exact PostX.no h
  | bad => rw [hx] at h; exact h
theorem pts_any {Y : SW} {ifs : List Expr} {o : Env → Store → Out Bool} (h : ∀ F, PTs X ifs (tIT X.K F Y o)) : PTs X ifs (tTX X.K o) := ⟨fun pins s σ H Q I ⟨F, q⟩ => (h F).run pins s σ H Q I q.no⟩
theorem pe_any {Y : SW} {e : Expr} {o : Env → Store → Out PV} (h : ∀ F, PE X e (tI X.K F Y o)) : PE X e (tX X.K o) := ⟨fun pins s σ H Q I ⟨F, q⟩ => (h F).run pins s σ H Q I q.no⟩
theorem pi_any {Y : SW} {tg e : Expr} {o : Env → Store → Out (List PV × Watch)} (h : ∀ F, PI X tg e (iI X.K F Y o)) : PI X tg e (iX X.K o) := ⟨fun pins s σ H Q I ⟨F, q⟩ => (h F).run pins s σ H Q I q.no⟩
theorem pg_any {tg : Expr} {p : Pt} (h : ∀ F, PG X tg (gI X.K F p)) : PG X tg (gX X.K p) := ⟨fun pins s σ H v u Q I r ⟨F, q⟩ => (h F).run pins s σ H v u Q I r q⟩
theorem cons_read {K : PySem.W.Frag} {Y : SW} {C : Ctx} {a : Ex} {es : Exs} {σ : St} {H : Hp} {Q : List V → Hp → Prop} (q : tIA K F Y (evEs C (.cons a es)) σ H Q) : tCons (tI K F Y (evE C a)) (tIA K F Y (evEs C es)) σ H Q := by
  obtain ⟨r, env, st, R, E, q⟩ := q
  refine ⟨r, env, st, R, E, ?_⟩
  simp only [evEs] at q
  cases h1 : evE C a env st with
  | exc => rw [h1] at q; exact q
  | bad => rw [h1] at q; exact q.elim
  | ok p st1 =>
    rw [h1] at q
    intro v H1 r1 A1 R1 hv
    refine ⟨r1, env, st1, R1, E.aft R A1, ?_⟩
    have q := q.aft A1
    simp only [bind_ok] at q
    cases h2 : evEs C es env st1 with
    | exc => rw [h2] at q; exact q
    | bad => rw [h2] at q; exact q.elim
    | ok ps st2 =>
      rw [h2] at q
      exact fun vs H2 r2 A2 R2 hvs => q (v :: vs) H2 r2 A2 R2 (.cons (hv.aft R1 A2) hvs)
theorem nil_read {K : PySem.W.Frag} {Y : SW} {C : Ctx} {σ : St} {H : Hp} {Q : List V → Hp → Prop} (q : tIA K F Y (evEs C .nil) σ H Q) : Q [] H := by
  obtain ⟨r, env, st, R, E, q⟩ := q
  exact q [] H r .refl R .nil
theorem and_read {K : PySem.W.Frag} {Y : SW} {C : Ctx} {a b : Ex} {es : Exs} {σ : St} {H : Hp} {Q : VK} (q : tI K F Y (evAnd C (.cons a (.cons b es))) σ H Q) : tAndT K (tI K F Y (evE C a)) (tI K F Y (evAnd C (.cons b es))) σ H Q := by
  have q : tI K F Y (fun env st => (evE C a env st).bind fun x st1 => match truthy st1 x with
    | some true => evAnd C (.cons b es) env st1
    | some false => .ok x st1
    | none => .bad) σ H Q := tI.eq q fun env st => by
    rw [evAnd] <;> first
      | rfl
      | (intro z; cases z)
  have q := tI.step q
  obtain ⟨r, env, st, R, E, q⟩ := q
  refine ⟨r, env, st, R, E, ?_⟩
  cases h1 : evE C a env st with
  | exc => rw [h1] at q; exact q
  | bad => rw [h1] at q; exact q.elim
  | ok p st1 =>
    rw [h1] at q
    intro v H1 r1 A1 R1 hv
    obtain ⟨r2, env2, st2, p2, R2, E2, hv2, q⟩ := q v H1 r1 A1 R1 hv
    split at q
    · rename_i e1
      exact ⟨true, tru_of R2 hv2 e1, by rw [if_pos rfl]; exact ⟨r2, env2, st2, R2, E2, q⟩⟩
    · rename_i e1
      exact ⟨false, tru_of R2 hv2 e1, by rw [if_neg Bool.false_ne_true]; exact q.here R2 hv2⟩
    · exact q.elim
theorem or_read {K : PySem.W.Frag} {Y : SW} {C : Ctx} {a b : Ex} {es : Exs} {σ : St} {H : Hp} {Q : VK} (q : tI K F Y (evOr C (.cons a (.cons b es))) σ H Q) : tOrT K (tI K F Y (evE C a)) (tI K F Y (evOr C (.cons b es))) σ H Q := by
  have q : tI K F Y (fun env st => (evE C a env st).bind fun x st1 => match truthy st1 x with
    | some true => .ok x st1
    | some false => evOr C (.cons b es) env st1
    | none => .bad) σ H Q := tI.eq q fun env st => by
    rw [evOr] <;> first
      | rfl
      | (intro z; cases z)
  have q := tI.step q
  obtain ⟨r, env, st, R, E, q⟩ := q
  refine ⟨r, env, st, R, E, ?_⟩
  cases h1 : evE C a env st with
  | exc => rw [h1] at q; exact q
  | bad => rw [h1] at q; exact q.elim
  | ok p st1 =>
    rw [h1] at q
    intro v H1 r1 A1 R1 hv
    obtain ⟨r2, env2, st2, p2, R2, E2, hv2, q⟩ := q v H1 r1 A1 R1 hv
    split at q
    · rename_i e1
      exact ⟨true, tru_of R2 hv2 e1, by rw [if_pos rfl]; exact q.here R2 hv2⟩
    · rename_i e1
      exact ⟨false, tru_of R2 hv2 e1, by rw [if_neg Bool.false_ne_true]; exact ⟨r2, env2, st2, R2, E2, q⟩⟩
    · exact q.elim

mutual
theorem snd_E : ∀ (ex : Ex) {X : Cx} {N : List Str} {sc so : Scope} {W : WX} (S : Std X g n N sc so W) {e : Expr}, chkE g N sc ex e = true → ∀ F, PE X e (tI X.K F (sw X.mg W) (evE (g.ctx (clOf X.mg) n) ex)) ∧ PT X e (tIT X.K F (sw X.mg W) (evC (g.ctx (clOf X.mg) n) ex))
  | .c v, _, _, _, _, _, S, _, h, F => snd_c v h
  | .v i, _, _, _, _, _, S, _, h, F => snd_v S i h
  | .g y, _, _, _, _, _, S, _, h, F => snd_g S y h
  | .bin o fr a b, X, N, sc, so, W, S, e, h, F => by
    cases e <;> first | (cases h; done) | skip
    rename_i ea op eb pos
    have h : (decide (op = opB o) && chkE g N sc a ea && chkE g N sc b eb) = true := h
    simp only [Bool.and_eq_true, decide_eq_true_eq] at h
    obtain ⟨⟨rfl, h1⟩, h2⟩ := h
    have main : PE X (.BinOp ea (opB o) eb pos) (tI X.K F (sw X.mg W) (evE (g.ctx (clOf X.mg) n) (.bin o fr a b))) :=
      PE.imp (pe_op (op_bin (F := F) o fr) (snd_E a S h1 F).1 (snd_E b S h2 F).1) fun σ H Q q => two_readB (f := fun p q st => binV o fr st p q) q
    exact ⟨main, pt_plain _ main fun _ => rfl⟩
  | .neg a, X, N, sc, so, W, S, e, h, F => by
    cases e <;> first | (cases h; done) | skip
    rename_i op ea pos
    cases op <;> first | (cases h; done) | skip
    have h : chkE g N sc a ea = true := h
    have main : PE X (.UnaryOp .USub ea pos) (tI X.K F (sw X.mg W) (evE (g.ctx (clOf X.mg) n) (.neg a))) := PE.imp (pe_un un_neg (snd_E a S h F).1) fun σ H Q q => by
      have q := tI.step q
      obtain ⟨r, env, st, R, E, q⟩ := q
      refine ⟨r, env, st, R, E, ?_⟩
      cases h1 : evE (g.ctx (clOf X.mg) n) a env st with
      | exc => rw [h1] at q; exact q
      | bad => rw [h1] at q; exact q.elim
      | ok p st1 =>
        rw [h1] at q
        intro v H1 r1 A1 R1 hv
        obtain ⟨r2, env2, st2, p2, R2, E2, hv2, q⟩ := q v H1 r1 A1 R1 hv
        cases hv2 with
        | int i => exact ⟨i, rfl, q.here R2 (.int _)⟩
        | _ => exact q.elim
    exact ⟨main, pt_plain _ main fun _ => rfl⟩
  | .nt a, X, N, sc, so, W, S, e, h, F => by
    cases e <;> first | (cases h; done) | skip
    rename_i op ea pos
    cases op <;> first | (cases h; done) | skip
    have h : chkE g N sc a ea = true := h
    refine ⟨PE.imp (pe_notT (snd_E a S h F).1) fun σ H Q q => ?_, PT.imp (pt_not (snd_E a S h F).2) fun σ H Q q => ?_⟩
    · have q := tI.step q
      obtain ⟨r, env, st, R, E, q⟩ := q
      refine ⟨r, env, st, R, E, ?_⟩
      cases h1 : evE (g.ctx (clOf X.mg) n) a env st with
      | exc => rw [h1] at q; exact q
      | bad => rw [h1] at q; exact q.elim
      | ok p st1 =>
        rw [h1] at q
        intro v H1 r1 A1 R1 hv
        obtain ⟨r2, env2, st2, p2, R2, E2, hv2, q⟩ := q v H1 r1 A1 R1 hv
        split at q
        · exact ⟨_, tru_of R2 hv2 (by assumption), q.here R2 (.bl _)⟩
        · exact q.elim
    · have q := tIT.step2 (o := evC (g.ctx (clOf X.mg) n) a) (f := fun b env st => .ok (!b) st) (tIT.eq q fun env st => by
        unfold evC
        simp only [evE]
        cases evE (g.ctx (clOf X.mg) n) a env st with
        | exc => rfl
        | bad => rfl
        | ok p st1 =>
          simp only [bind_ok]
          cases truthy st1 p <;> rfl)
      obtain ⟨r, env, st, R, E, q⟩ := q
      refine ⟨r, env, st, R, E, ?_⟩
      cases h1 : evC (g.ctx (clOf X.mg) n) a env st with
      | exc => rw [h1] at q; exact q
      | bad => rw [h1] at q; exact q.elim
      | ok p st1 =>
        rw [h1] at q
        intro H1 r1 A1 R1
        obtain ⟨r2, env2, st2, R2, E2, q⟩ := q H1 r1 A1 R1
        exact q H1 r2 .refl R2
  | .cmp o a b, X, N, sc, so, W, S, e, h, F => by
    cases e <;> first | (cases h; done) | skip
    rename_i ea ops ebs pos
    match ops, ebs, h with
    | [op], [eb], h =>
      have h : (decide (op = opC o) && chkE g N sc a ea && chkE g N sc b eb) = true := h
      simp only [Bool.and_eq_true, decide_eq_true_eq] at h
      obtain ⟨⟨rfl, h1⟩, h2⟩ := h
      refine ⟨PE.imp (pe_cmpR (op_cmp (F := F) (n + 2) S.cal o) (snd_E a S h1 F).1 (snd_E b S h2 F).1 (in_last (chk_okS h2))) fun σ H Q q => ?_,
        PT.imp (pt_cmpR (op_cmp (F := F) (n + 2) S.cal o) (snd_E a S h1 F).1 (snd_E b S h2 F).1 (in_last (chk_okS h2))) fun σ H Q q => ?_⟩
      · have q := two_read (f := fun p q st => (Out.of (cmpV o st p q) st).bind fun b st3 => .ok (.bl b) st3) q
        obtain ⟨r, env, st, R, E, q⟩ := q
        refine ⟨r, env, st, R, E, ?_⟩
        cases h1 : evE (g.ctx (clOf X.mg) n) a env st with
        | exc => rw [h1] at q; exact q
        | bad => rw [h1] at q; exact q.elim
        | ok p st1 =>
          rw [h1] at q
          intro v H1 r1 A1 R1 hv
          obtain ⟨r2, env2, st2, R2, E2, q⟩ := q v H1 r1 A1 R1 hv
          refine ⟨r2, env2, st2, R2, E2, ?_⟩
          cases h3 : evE (g.ctx (clOf X.mg) n) b env2 st2 with
          | exc => rw [h3] at q; exact q
          | bad => rw [h3] at q; exact q.elim
          | ok p2 st3 =>
            rw [h3] at q
            intro v2 H4 r4 A4 R4 hv4
            obtain ⟨r5, st5, p5, q5, R5, hp, hq, q⟩ := q v2 H4 r4 A4 R4 hv4
            obtain ⟨k, e1, q⟩ := post_cmp R5 q
            exact ⟨r5, st5, p5, q5, k, R5, hp, hq, e1, q⟩
      · have q := two_readT (f := fun p q st => ((Out.of (cmpV o st p q) st).bind fun b st3 => .ok (PV.bl b) st3).bind fun x st1 => Out.of (truthy st1 x) st1) (tIT.eq q fun env st => by
          unfold evC
          simp only [evE]
          rw [bind_assoc']
          congr 1
          funext x st1
          rw [bind_assoc'])
        obtain ⟨r, env, st, R, E, q⟩ := q
        refine ⟨r, env, st, R, E, ?_⟩
        cases h1 : evE (g.ctx (clOf X.mg) n) a env st with
        | exc => rw [h1] at q; exact q
        | bad => rw [h1] at q; exact q.elim
        | ok p st1 =>
          rw [h1] at q
          intro v H1 r1 A1 R1 hv
          obtain ⟨r2, env2, st2, R2, E2, q⟩ := q v H1 r1 A1 R1 hv
          refine ⟨r2, env2, st2, R2, E2, ?_⟩
          cases h3 : evE (g.ctx (clOf X.mg) n) b env2 st2 with
          | exc => rw [h3] at q; exact q
          | bad => rw [h3] at q; exact q.elim
          | ok p2 st3 =>
            rw [h3] at q
            intro v2 H4 r4 A4 R4 hv4
            obtain ⟨r5, st5, p5, q5, R5, hp, hq, q⟩ := q v2 H4 r4 A4 R4 hv4
            obtain ⟨k, e1, q⟩ := post_tru R5 q
            exact ⟨r5, st5, p5, q5, k, R5, hp, hq, e1, k, rfl, q⟩
    | [], _, h => cases h
    | _ :: _ :: _, [], h => cases h
    | _ :: _ :: _, _ :: _, h => cases h
    | [_], [], h => cases h
    | [_], _ :: _ :: _, h => cases h
  | .chn o o2 a b c, X, N, sc, so, W, S, e, h, F => by
    cases e <;> first | (cases h; done) | skip
    rename_i ea ops ebs pos
    match ops, ebs, h with
    | [op, op2], [eb, ec], h =>
      have h : (decide (op = opC o) && decide (op2 = opC o2) && chkE g N sc a ea && chkE g N sc b eb && chkE g N sc c ec) = true := h
      simp only [Bool.and_eq_true, decide_eq_true_eq] at h
      obtain ⟨⟨⟨⟨rfl, rfl⟩, h1⟩, h2⟩, h3⟩ := h
      have rd : ∀ σ H Q, tI X.K F (sw X.mg W) (evE (g.ctx (clOf X.mg) n) (.chn o o2 a b c)) σ H Q → tChain (rC X.K F o) (rC X.K F o2) (tI X.K F (sw X.mg W) (evE (g.ctx (clOf X.mg) n) a)) (tI X.K F (sw X.mg W) (evE (g.ctx (clOf X.mg) n) b)) (tI X.K F (sw X.mg W) (evE (g.ctx (clOf X.mg) n) c)) σ H Q := by
        intro σ H Q q
        obtain ⟨r, env, st, R, E, q⟩ := q
        refine ⟨r, env, st, R, E, ?_⟩
        simp only [evE] at q
        cases k1 : evE (g.ctx (clOf X.mg) n) a env st with
        | exc => rw [k1] at q; exact q
        | bad => rw [k1] at q; exact q.elim
        | ok p st1 =>
          rw [k1] at q
          intro v H1 r1 A1 R1 hv
          have q := q.aft A1
          simp only [bind_ok] at q
          refine ⟨r1, env, st1, R1, E.aft R A1, ?_⟩
          cases k2 : evE (g.ctx (clOf X.mg) n) b env st1 with
          | exc => rw [k2] at q; exact q
          | bad => rw [k2] at q; exact q.elim
          | ok p2 st2 =>
            rw [k2] at q
            intro v2 H2 r2 A2 R2 hv2
            have q := q.aft A2
            simp only [bind_ok] at q
            cases k3 : cmpV o st2 p p2 with
            | none => rw [k3] at q; exact q.elim
            | some k =>
              rw [k3] at q
              simp only [of_some, bind_ok] at q
              refine ⟨r2, st2, p, p2, k, R2, hv.aft R1 A2, hv2, k3, k, rfl, ?_⟩
              cases k with
              | false => rw [if_neg Bool.false_ne_true] at q ⊢; exact q.here R2 (.bl _)
              | true =>
                rw [if_pos rfl] at q ⊢
                refine ⟨r2, env, st2, R2, (E.aft R A1).aft R1 A2, ?_⟩
                cases k4 : evE (g.ctx (clOf X.mg) n) c env st2 with
                | exc => rw [k4] at q; exact q
                | bad => rw [k4] at q; exact q.elim
                | ok p3 st3 =>
                  rw [k4] at q
                  intro v3 H3 r3 A3 R3 hv3
                  have q := q.aft A3
                  simp only [bind_ok] at q
                  obtain ⟨b, e1, q⟩ := post_cmp R3 q
                  exact ⟨r3, st3, p2, p3, b, R3, hv2.aft R2 A3, hv3, e1, q⟩
      refine ⟨PE.imp (pe_chain (op_cmp (F := F) (n + 2) S.cal o) (op_cmp (F := F) (n + 2) S.cal o2) (snd_E a S h1 F).1 (snd_E b S h2 F).1 (snd_E c S h3 F).1 (last_marks (chk_okS h3))) rd,
        PT.imp (pt_chain (op_cmp (F := F) (n + 2) S.cal o) (op_cmp (F := F) (n + 2) S.cal o2) (snd_E a S h1 F).1 (snd_E b S h2 F).1 (snd_E c S h3 F).1 (last_marks (chk_okS h3))) fun σ H Q q => rd σ H _ ?_⟩
      obtain ⟨r, env, st, R, E, q⟩ := q
      refine ⟨r, env, st, R, E, ?_⟩
      unfold evC at q
      cases k1 : evE (g.ctx (clOf X.mg) n) (.chn o o2 a b c) env st with
      | exc => rw [k1] at q; exact q
      | bad => rw [k1] at q; exact q.elim
      | ok p st1 =>
        rw [k1] at q
        have isb : ∃ k, p = .bl k := by
          simp only [evE] at k1
          obtain ⟨_, _, _, k1⟩ := bind_eq k1
          obtain ⟨_, _, _, k1⟩ := bind_eq k1
          obtain ⟨k, _, _, k1⟩ := bind_eq k1
          cases k with
          | false => rw [if_neg Bool.false_ne_true] at k1; cases k1; exact ⟨_, rfl⟩
          | true =>
            rw [if_pos rfl] at k1
            obtain ⟨_, _, _, k1⟩ := bind_eq k1
            obtain ⟨_, _, _, k1⟩ := bind_eq k1
            cases k1; exact ⟨_, rfl⟩
        obtain ⟨k, rfl⟩ := isb
        intro v H1 r1 A1 R1 hv
        cases hv
        exact ⟨k, rfl, q H1 r1 A1 R1⟩
    | [], _, h => cases h
    | [_], [], h => cases h
    | [_], _ :: _, h => cases h
    | _ :: _ :: _ :: _, [], h => cases h
    | _ :: _ :: _ :: _, _ :: _, h => cases h
    | [_, _], [], h => cases h
    | [_, _], [_], h => cases h
    | [_, _], _ :: _ :: _ :: _, h => cases h
  | .ands es, X, N, sc, so, W, S, e, h, F => by
    cases e <;> first | (cases h; done) | skip
    rename_i op ees pos
    cases op <;> first | (cases h; done) | skip
    have h : (decide (2 ≤ ees.length) && chkEs g N sc es ees) = true := h
    simp only [Bool.and_eq_true, decide_eq_true_eq] at h
    obtain ⟨q1, q2⟩ := (snd_Es es S h.2).and (fun z => by rw [z] at h; simp at h) F pos
    exact ⟨q1, q2.pt⟩
  | .ors es, X, N, sc, so, W, S, e, h, F => by
    cases e <;> first | (cases h; done) | skip
    rename_i op ees pos
    cases op <;> first | (cases h; done) | skip
    have h : (decide (2 ≤ ees.length) && chkEs g N sc es ees) = true := h
    simp only [Bool.and_eq_true, decide_eq_true_eq] at h
    obtain ⟨q1, q2⟩ := (snd_Es es S h.2).or (fun z => by rw [z] at h; simp at h) F pos
    exact ⟨q1, q2.pt⟩
  | .ite c a b, X, N, sc, so, W, S, e, h, F => by
    cases e <;> first | (cases h; done) | skip
    rename_i ec ea eb pos
    have h : (chkE g N sc c ec && chkE g N sc a ea && chkE g N sc b eb) = true := h
    simp only [Bool.and_eq_true] at h
    obtain ⟨⟨h1, h2⟩, h3⟩ := h
    have eqn : ∀ env st, evE (g.ctx (clOf X.mg) n) (.ite c a b) env st = (evC (g.ctx (clOf X.mg) n) c env st).bind fun k st1 => if k = true then evE (g.ctx (clOf X.mg) n) a env st1 else evE (g.ctx (clOf X.mg) n) b env st1 := by
      intro env st
      unfold evC
      simp only [evE]
      cases evE (g.ctx (clOf X.mg) n) c env st with
      | exc => rfl
      | bad => rfl
      | ok p st1 =>
        simp only [bind_ok]
        cases truthy st1 p with
        | none => rfl
        | some k => cases k <;> rfl
    refine ⟨PE.imp (pe_ifExp (snd_E c S h1 F).2 (snd_E a S h2 F).1 (snd_E b S h3 F).1) fun σ H Q q => ?_, PT.imp (pt_if (snd_E c S h1 F).2 (snd_E a S h2 F).2 (snd_E b S h3 F).2) fun σ H Q q => ?_⟩
    · have q := tIT.step (f := fun k env st1 => if k = true then evE (g.ctx (clOf X.mg) n) a env st1 else evE (g.ctx (clOf X.mg) n) b env st1) (tI.eq q eqn)
      obtain ⟨r, env, st, R, E, q⟩ := q
      refine ⟨r, env, st, R, E, ?_⟩
      cases k1 : evC (g.ctx (clOf X.mg) n) c env st with
      | exc => rw [k1] at q; exact q
      | bad => rw [k1] at q; exact q.elim
      | ok k st1 =>
        rw [k1] at q
        intro H1 r1 A1 R1
        have q := q H1 r1 A1 R1
        cases k <;> exact q
    · have q := tIT.step2 (f := fun k env st1 => if k = true then evC (g.ctx (clOf X.mg) n) a env st1 else evC (g.ctx (clOf X.mg) n) b env st1) (tIT.eq q fun env st => by
        show (evE (g.ctx (clOf X.mg) n) (.ite c a b) env st).bind _ = _
        rw [eqn, bind_assoc']
        congr 1
        funext k st1
        cases k <;> rfl)
      obtain ⟨r, env, st, R, E, q⟩ := q
      refine ⟨r, env, st, R, E, ?_⟩
      cases k1 : evC (g.ctx (clOf X.mg) n) c env st with
      | exc => rw [k1] at q; exact q
      | bad => rw [k1] at q; exact q.elim
      | ok k st1 =>
        rw [k1] at q
        intro H1 r1 A1 R1
        have q := q H1 r1 A1 R1
        cases k <;> exact q
  | .tup es, X, N, sc, so, W, S, e, h, F => by
    cases e <;> first | (cases h; done) | skip
    rename_i ees k pos
    have h : chkEs g N sc es ees = true := h
    have main : PE X (.Tuple ees k pos) (tI X.K F (sw X.mg W) (evE (g.ctx (clOf X.mg) n) (.tup es))) := PE.imp (pe_tup ((snd_Es es S h).pa F)) fun σ H Q q => by
      obtain ⟨r, env, st, R, E, q⟩ := q
      refine ⟨r, env, st, R, E, ?_⟩
      simp only [evE] at q
      cases k1 : evEs (g.ctx (clOf X.mg) n) es env st with
      | exc => rw [k1] at q; exact q
      | bad => rw [k1] at q; exact q.elim
      | ok ps st1 =>
        rw [k1] at q
        intro vs H1 r1 A1 R1 hv
        have q := q.aft A1
        simp only [bind_ok] at q
        split at q
        · exact ⟨by rw [hv.length]; assumption, q.tup R1 hv⟩
        · exact q.elim
    exact ⟨main, pt_plain _ main fun _ => rfl⟩
  | .lst fr es, X, N, sc, so, W, S, e, h, F => by
    cases e <;> first | (cases h; done) | skip
    rename_i ees pos
    have h : chkEs g N sc es ees = true := h
    have main : PE X (.List ees pos) (tI X.K F (sw X.mg W) (evE (g.ctx (clOf X.mg) n) (.lst fr es))) := PE.imp (pe_lst ((snd_Es es S h).pa F)) fun σ H Q q => by
      obtain ⟨r, env, st, R, E, q⟩ := q
      refine ⟨r, env, st, R, E, ?_⟩
      simp only [evE] at q
      cases k1 : evEs (g.ctx (clOf X.mg) n) es env st with
      | exc => rw [k1] at q; exact q
      | bad => rw [k1] at q; exact q.elim
      | ok ps st1 =>
        rw [k1] at q
        intro vs H1 r1 A1 R1 hv
        have q := q.aft A1
        simp only [bind_ok] at q
        split at q
        · exact ⟨by rw [hv.length]; assumption, q.lst R1 hv⟩
        · exact q.elim
    exact ⟨main, pt_plain _ main fun _ => rfl⟩
  | .ix a b, X, N, sc, so, W, S, e, h, F => by
    cases e <;> first | (cases h; done) | skip
    rename_i ea eb pos
    have h : (chkE g N sc a ea && chkE g N sc b eb) = true := h
    simp only [Bool.and_eq_true] at h
    have main : PE X (.Subscript ea eb pos) (tI X.K F (sw X.mg W) (evE (g.ctx (clOf X.mg) n) (.ix a b))) := PE.imp (pe_ix (ix_all (F := F)) (snd_E a S h.1 F).1 (snd_E b S h.2 F).1 (okS_ix (chk_okS h.2))) fun σ H Q q => by
      have q := two_read (f := fun p q st => Out.of (ixV st p q) st) q
      obtain ⟨r, env, st, R, E, q⟩ := q
      refine ⟨r, env, st, R, E, ?_⟩
      cases h1 : evE (g.ctx (clOf X.mg) n) a env st with
      | exc => rw [h1] at q; exact q
      | bad => rw [h1] at q; exact q.elim
      | ok p st1 =>
        rw [h1] at q
        intro v H1 r1 A1 R1 hv
        obtain ⟨r2, env2, st2, R2, E2, q⟩ := q v H1 r1 A1 R1 hv
        refine ⟨r2, env2, st2, R2, E2, ?_⟩
        cases h3 : evE (g.ctx (clOf X.mg) n) b env2 st2 with
        | exc => rw [h3] at q; exact q
        | bad => rw [h3] at q; exact q.elim
        | ok p2 st3 =>
          rw [h3] at q
          intro v2 H4 r4 A4 R4 hv4
          obtain ⟨r5, st5, p5, q5, R5, hp, hq, q⟩ := q v2 H4 r4 A4 R4 hv4
          cases e1 : ixV st5 p5 q5 with
          | none => rw [e1] at q; exact q.elim
          | some z =>
            rw [e1] at q
            exact ⟨r5, st5, p5, q5, z, R5, hp, hq, e1, fun w hw => Post.here R5 q hw⟩
    exact ⟨main, pt_plain _ main fun _ => rfl⟩
  | .slA fr a lo hi, X, N, sc, so, W, S, e, h, F => by
    cases e <;> first | (cases h; done) | skip
    rename_i ea es pos
    cases es <;> first | (cases h; done) | skip
    rename_i l u t p2
    match l, u, t, h with
    | some el, some eh, none, h =>
      have h : (chkE g N sc a ea && chkE g N sc lo el && chkE g N sc hi eh) = true := h
      simp only [Bool.and_eq_true] at h
      have main : PE X (.Subscript ea (.Slice (some el) (some eh) none p2) pos) (tI X.K F (sw X.mg W) (evE (g.ctx (clOf X.mg) n) (.slA fr a lo hi))) :=
        PE.imp (pe_slice (sl_all (F := F) fr) (snd_E a S h.1.1 F).1 (po_some (snd_E lo S h.1.2 F).1) (po_some (snd_E hi S h.2 F).1)) fun σ H Q q => by
          obtain ⟨r, env, st, R, E, q⟩ := q
          refine ⟨r, env, st, R, E, ?_⟩
          simp only [evE] at q
          cases k1 : evE (g.ctx (clOf X.mg) n) a env st with
          | exc => rw [k1] at q; exact q
          | bad => rw [k1] at q; exact q.elim
          | ok p st1 =>
            rw [k1] at q
            intro v H1 r1 A1 R1 hv
            have q := q.aft A1
            simp only [bind_ok] at q
            refine ⟨r1, env, st1, R1, E.aft R A1, ?_⟩
            cases k2 : evE (g.ctx (clOf X.mg) n) lo env st1 with
            | exc => rw [k2] at q; exact q
            | bad => rw [k2] at q; exact q.elim
            | ok p2 st2 =>
              rw [k2] at q
              intro v2 H2 r2 A2 R2 hv2
              have q := q.aft A2
              simp only [bind_ok] at q
              cases hv2 with
              | int i =>
                refine ⟨i, rfl, r2, env, st2, R2, (E.aft R A1).aft R1 A2, ?_⟩
                cases k3 : evE (g.ctx (clOf X.mg) n) hi env st2 with
                | exc => rw [k3] at q; exact q
                | bad => rw [k3] at q; exact q.elim
                | ok p3 st3 =>
                  rw [k3] at q
                  simp only [bind_ok] at q
                  intro v3 H3 r3 A3 R3 hv3
                  have q := q.aft A3
                  cases hv3 with
                  | int j => exact ⟨j, rfl, _, r3, st3, p, R3, (hv.aft R1 A2).aft R2 A3, q⟩
                  | _ => exact q.elim
              | _ => exact q.elim
      exact ⟨main, pt_plain _ main fun _ => rfl⟩
    | none, none, _, h => cases h
    | none, some _, _, h => cases h
    | some _, none, _, h => cases h
    | some _, some _, some _, h => cases h
  | .slF fr a lo, X, N, sc, so, W, S, e, h, F => by
    cases e <;> first | (cases h; done) | skip
    rename_i ea es pos
    cases es <;> first | (cases h; done) | skip
    rename_i l u t p2
    match l, u, t, h with
    | some el, none, none, h =>
      have h : (chkE g N sc a ea && chkE g N sc lo el) = true := h
      simp only [Bool.and_eq_true] at h
      have main : PE X (.Subscript ea (.Slice (some el) none none p2) pos) (tI X.K F (sw X.mg W) (evE (g.ctx (clOf X.mg) n) (.slF fr a lo))) :=
        PE.imp (pe_slice (sl_all (F := F) fr) (snd_E a S h.1 F).1 (po_some (snd_E lo S h.2 F).1) po_none) fun σ H Q q => by
          have q := two_read (f := fun x y st2 => match y with
            | .int i => slV fr st2 x (some i) none
            | _ => .bad) q
          obtain ⟨r, env, st, R, E, q⟩ := q
          refine ⟨r, env, st, R, E, ?_⟩
          cases h1 : evE (g.ctx (clOf X.mg) n) a env st with
          | exc => rw [h1] at q; exact q
          | bad => rw [h1] at q; exact q.elim
          | ok p st1 =>
            rw [h1] at q
            intro v H1 r1 A1 R1 hv
            obtain ⟨r2, env2, st2, R2, E2, q⟩ := q v H1 r1 A1 R1 hv
            refine ⟨r2, env2, st2, R2, E2, ?_⟩
            cases h3 : evE (g.ctx (clOf X.mg) n) lo env2 st2 with
            | exc => rw [h3] at q; exact q
            | bad => rw [h3] at q; exact q.elim
            | ok p2 st3 =>
              rw [h3] at q
              intro v2 H4 r4 A4 R4 hv4
              obtain ⟨r5, st5, p5, q5, R5, hp, hq, q⟩ := q v2 H4 r4 A4 R4 hv4
              cases hq with
              | int i => exact ⟨i, rfl, _, r5, st5, p5, R5, hp, q⟩
              | _ => exact q.elim
      exact ⟨main, pt_plain _ main fun _ => rfl⟩
    | none, _, _, h => cases h
    | some _, some _, none, h => cases h
    | some _, none, some _, h => cases h
    | some _, some _, some _, h => cases h
  | .slT fr a hi, X, N, sc, so, W, S, e, h, F => by
    cases e <;> first | (cases h; done) | skip
    rename_i ea es pos
    cases es <;> first | (cases h; done) | skip
    rename_i l u t p2
    match l, u, t, h with
    | none, some eh, none, h =>
      have h : (chkE g N sc a ea && chkE g N sc hi eh) = true := h
      simp only [Bool.and_eq_true] at h
      have main : PE X (.Subscript ea (.Slice none (some eh) none p2) pos) (tI X.K F (sw X.mg W) (evE (g.ctx (clOf X.mg) n) (.slT fr a hi))) :=
        PE.imp (pe_slice (sl_all (F := F) fr) (snd_E a S h.1 F).1 po_none (po_some (snd_E hi S h.2 F).1)) fun σ H Q q => by
          have q := two_read (f := fun x y st2 => match y with
            | .int i => slV fr st2 x none (some i)
            | _ => .bad) q
          obtain ⟨r, env, st, R, E, q⟩ := q
          refine ⟨r, env, st, R, E, ?_⟩
          cases h1 : evE (g.ctx (clOf X.mg) n) a env st with
          | exc => rw [h1] at q; exact q
          | bad => rw [h1] at q; exact q.elim
          | ok p st1 =>
            rw [h1] at q
            intro v H1 r1 A1 R1 hv
            obtain ⟨r2, env2, st2, R2, E2, q⟩ := q v H1 r1 A1 R1 hv
            refine ⟨r2, env2, st2, R2, E2, ?_⟩
            cases h3 : evE (g.ctx (clOf X.mg) n) hi env2 st2 with
            | exc => rw [h3] at q; exact q
            | bad => rw [h3] at q; exact q.elim
            | ok p2 st3 =>
              rw [h3] at q
              intro v2 H4 r4 A4 R4 hv4
              obtain ⟨r5, st5, p5, q5, R5, hp, hq, q⟩ := q v2 H4 r4 A4 R4 hv4
              cases hq with
              | int i => exact ⟨i, rfl, _, r5, st5, p5, R5, hp, q⟩
              | _ => exact q.elim
      exact ⟨main, pt_plain _ main fun _ => rfl⟩
    | some _, _, _, h => cases h
    | none, none, _, h => cases h
    | none, some _, some _, h => cases h
  | .slR fr a, X, N, sc, so, W, S, e, h, F => by
    obtain ⟨ea, k, p1, p2, p3, pos, rfl, h⟩ : ∃ ea k p1 p2 p3 pos, e = .Subscript ea (.Slice none none (some (.UnaryOp .USub (.Constant (.int 1) k p1) p2)) p3) pos ∧ chkE g N sc a ea = true := by
      unfold chkE at h
      split at h <;> first | (cases h; done) | (rename_i z; cases z; done) | skip
      rename_i z
      cases z
      exact ⟨_, _, _, _, _, _, rfl, h⟩
    have main : PE X (.Subscript ea (.Slice none none (some (.UnaryOp .USub (.Constant (.int 1) k p1) p2)) p3) pos) (tI X.K F (sw X.mg W) (evE (g.ctx (clOf X.mg) n) (.slR fr a))) :=
      PE.imp (pe_back (snd_E a S h F).1) fun σ H Q q => by
        have q := tI.step q
        obtain ⟨r, env, st, R, E, q⟩ := q
        refine ⟨r, env, st, R, E, ?_⟩
        cases k1 : evE (g.ctx (clOf X.mg) n) a env st with
        | exc => rw [k1] at q; exact q
        | bad => rw [k1] at q; exact q.elim
        | ok p st1 =>
          rw [k1] at q
          intro v H1 r1 A1 R1 hv
          obtain ⟨r2, env2, st2, p2, R2, E2, hv2, q⟩ := q v H1 r1 A1 R1 hv
          have gen : ∀ {xs : List PV}, seqL st2 p2 = some xs → Post X.K F (sw X.mg W σ) r2 H1 Q (newL fr xs.reverse st2) → ∃ (a : Addr) (vs : List V), v = .ref a ∧ ((SqL X.K H1 a vs ∧ ∀ p, H1 p = none → Q (.ref p) (upd H1 p (.lst vs.reverse))) ∨ (SqT X.K H1 a vs ∧ ∀ p, H1 p = none → Q (.ref p) (upd H1 p (.tup vs.reverse)))) := fun e q => by
            obtain ⟨a, vs, rfl, s1, q1⟩ := hv2.seqL R2 e
            exact ⟨a, vs, rfl, .inl ⟨s1, q.lst R2 q1.reverse⟩⟩
          unfold backE at q
          cases hv2 with
          | @tup a vs ps h1 q1 => exact ⟨a, vs, rfl, .inr ⟨h1, q.tup R2 q1.reverse⟩⟩
          | @lsv a vs ps h1 q1 => exact gen rfl q
          | @loc a i e1 =>
            dsimp only at q
            split at q
            · rename_i xs e2
              exact gen e2 q
            · exact q.elim
          | _ => exact q.elim
    exact ⟨main, pt_plain _ main fun _ => rfl⟩
  | .call f es, X, N, sc, so, W, S, e, h, F => by
    cases e <;> first | (cases h; done) | skip
    rename_i fe ees kws pos
    cases fe <;> first | (cases h; done) | skip
    rename_i x p
    match ees, kws, h with
    | a :: ees, [], h =>
      obtain ⟨hh, h⟩ := cool_of h
      have h : (decide (x = f) && glb sc x && (g.tb.lookup f).isSome && chkEs g N sc es (a :: ees)) = true := h
      simp only [Bool.and_eq_true, decide_eq_true_eq] at h
      have q := snd_Es es S h.2
      have main : PE X (.Call (.Name x p) (a :: ees) [] pos) (tI X.K F (sw X.mg W) (evE (g.ctx (clOf X.mg) n) (.call f es))) := sub_call S hh f h.1.1.1 h.1.1.2 h.1.2 q.ok q.len (q.pa F)
      exact ⟨main, pt_plain _ main fun _ => rfl⟩
    | [], _, h => cases h
    | _ :: _, _ :: _, h => cases h
  | .callk f es ks perm, X, N, sc, so, W, S, e, h, F => by
    cases e <;> first | (cases h; done) | skip
    rename_i fe ees kws pos
    cases fe <;> first | (cases h; done) | skip
    rename_i x p
    obtain ⟨hh, h⟩ := cool_of h
    have h : (decide (x = f) && glb sc x && (g.tb.lookup f).isSome && kws.all (fun k => k.arg.isSome) && !kws.isEmpty && decide ((f, kwNames kws, ees.length, perm) ∈ g.kcs) && chkEs g N sc es ees && chkEs g N sc ks (kws.map (·.value))) = true := h
    simp only [Bool.and_eq_true, decide_eq_true_eq] at h
    obtain ⟨⟨⟨⟨⟨⟨⟨hx, hg⟩, ht⟩, hkw⟩, hne⟩, hmem⟩, h1⟩, h2⟩ := h
    have q1 := snd_Es es S h1
    have q2 := snd_Es ks S h2
    subst hx
    obtain ⟨fn, hf⟩ := Option.isSome_iff_exists.mp ht
    obtain ⟨ad, fd, hm, hk, G, _, hb⟩ := S.link.fn x fn hf
    obtain ⟨hgl, hd⟩ := S.gl hg
    obtain ⟨w1, w2, w3⟩ := kw_facts kws hkw pos X.env
    have hbk := hb _ _ _ hmem
    have hkl : (kwNames kws).length = ks.length := by rw [kwNames_len kws hkw, q2.len, List.length_map]
    have main : PE X (.Call (.Name x p) ees kws pos) (tI X.K F (sw X.mg W) (evE (g.ctx (clOf X.mg) n) (.callk x es ks perm))) := by
      match ees, q1, hbk with
      | [], q1, hbk =>
        refine PE.imp (pe_cGk0 (tk := tIA X.K F (sw X.mg W) (evEs (g.ctx (clOf X.mg) n) ks)) (g := fun us ws => perm.map fun i => (us ++ ws).getD i .none) (gV := fun vs zs => perm.map fun i => (vs ++ zs).getD i .non) G (hh ▸ S.cal) S.tk hgl hm hk (fun s us ws _ l2 l3 => hbk s us ws l3 l2) (fun r1 r2 => vals_perm (r1.append r2) perm)
          (q2.pk kws rfl F) hd w1 w2 (by show (false || _) = false; rw [w3]; rfl)) fun σ H Q q => ?_
        have q := kw_read (a := 0) (b := (kwNames kws).length) (fun env st ps st1 e => by rw [evEs_len _ es env st ps st1 e]; exact q1.len) (fun env st ps st1 e => by rw [evEs_len _ ks env st ps st1 e]; exact hkl.symm) q
        obtain ⟨r, env, st, R, E, q⟩ := q
        cases es with
        | nil =>
          obtain ⟨_, q⟩ := q [] H r .refl R .nil
          exact q
        | cons a b => have := q1.len; simp [Exs.length] at this
      | a :: ees, q1, hbk =>
        have hs2 := List.all_cons ▸ q1.ok
        simp only [Bool.and_eq_true] at hs2
        refine PE.imp (pe_cGk (tk := tIA X.K F (sw X.mg W) (evEs (g.ctx (clOf X.mg) n) ks)) (t := tIA X.K F (sw X.mg W) (evEs (g.ctx (clOf X.mg) n) es)) (g := fun us ws => perm.map fun i => (us ++ ws).getD i .none) (gV := fun vs zs => perm.map fun i => (vs ++ zs).getD i .non) G (hh ▸ S.cal) S.tk hgl hm hk (fun s us ws _ l2 l3 => hbk s us ws l3 l2) (fun r1 r2 => vals_perm (r1.append r2) perm)
          (q1.pa F) (q2.pk kws rfl F) hd w1 w2 (okS_star hs2.1 _ _) (by rw [w3, okS_any q1.ok]; rfl)) fun σ H Q q => ?_
        exact kw_read (a := (a :: ees).length) (b := (kwNames kws).length) (fun env st ps st1 e => by rw [evEs_len _ es env st ps st1 e]; exact q1.len) (fun env st ps st1 e => by rw [evEs_len _ ks env st ps st1 e]; exact hkl.symm) q
    exact ⟨main, pt_plain _ main fun _ => rfl⟩
  | .bi f fr es, X, N, sc, so, W, S, e, h, F => by
    cases e <;> first | (cases h; done) | skip
    rename_i fe ees kws pos
    cases fe <;> first | (cases h; done) | skip
    rename_i x p
    match ees, kws, h with
    | a :: ees, [], h =>
      have h0 : ((!g.hot || coolBi f) && (decide (x = biName f) && glb sc x && decide (x ∈ g.bs) && chkEs g N sc es (a :: ees))) = true := h
      rw [Bool.and_eq_true, Bool.or_eq_true, Bool.not_eq_true'] at h0
      obtain ⟨hf, h⟩ := h0
      have h : (decide (x = biName f) && glb sc x && decide (x ∈ g.bs) && chkEs g N sc es (a :: ees)) = true := h
      simp only [Bool.and_eq_true, decide_eq_true_eq] at h
      have q := snd_Es es S h.2
      have main : PE X (.Call (.Name x p) (a :: ees) [] pos) (tI X.K F (sw X.mg W) (evE (g.ctx (clOf X.mg) n) (.bi f fr es))) := sub_bi S f fr h.1.1.1 h.1.1.2 h.1.2 hf q.ok (q.pa F)
      exact ⟨main, pt_plain _ main fun _ => rfl⟩
    | [], _, h => cases h
    | _ :: _, _ :: _, h => cases h
  | .isi a T, X, N, sc, so, W, S, e, h, F => by
    cases e <;> first | (cases h; done) | skip
    rename_i fe ees kws pos
    cases fe <;> first | (cases h; done) | skip
    rename_i x p
    have hh : ∃ ee t tp, ees = [ee, .Name t tp] ∧ kws = [] := by
      rcases ees with _ | ⟨a1, _ | ⟨b1, _ | ⟨c1, r1⟩⟩⟩ <;> rcases kws with _ | ⟨k1, ks1⟩ <;> first
        | (cases h; done)
        | (cases b1 <;> first | (cases h; done) | exact ⟨_, _, _, rfl, rfl⟩)
    obtain ⟨ee, t, tp, rfl, rfl⟩ := hh
    have h : (decide (x = ("isinstance" : Str)) && glb sc x && decide (x ∈ g.bs) && decide (t = Str.ofString T) && glb sc t && decide (t ∈ g.bs) && decide (T ∈ tyNames) && chkE g N sc a ee) = true := h
    simp only [Bool.and_eq_true, decide_eq_true_eq] at h
    obtain ⟨⟨⟨⟨⟨⟨⟨hx, hg⟩, hb⟩, ht⟩, hgt⟩, hbt⟩, hT⟩, h1⟩ := h
    subst hx
    obtain ⟨hgl, hd⟩ := S.gl hg
    obtain ⟨hgl2, hd2⟩ := S.gl hgt
    have ok1 := chk_okS h1
    have pt : PE X (.Name t tp) (tC (.ty T)) := pe_bltn hgl2 (S.link.bs t hbt) (by rw [ht]; exact boot_ty hT) rfl (by rw [ht]; exact name_ty hT) hd2
    have ha : PA X [ee, .Name t tp] (tCons (tI X.K F (sw X.mg W) (evE (g.ctx (clOf X.mg) n) a)) (tCons (tC (.ty T)) tNil)) := pa_cons (snd_E a S h1 F).1 (pa_cons pt pa_nil) (okS_star ok1 _ _)
    have main : PE X (.Call (.Name "isinstance" p) [ee, .Name t tp] [] pos) (tI X.K F (sw X.mg W) (evE (g.ctx (clOf X.mg) n) (.isi a T))) := PE.imp (pe_callB call_isi hgl (S.link.bs _ hb) boot_isinstance ha (by decide) hd (okS_star ok1 _ _) rfl) fun σ H Q q => by
      have q := tI.step q
      obtain ⟨r, env, st, R, E, q⟩ := q
      refine ⟨r, env, st, R, E, ?_⟩
      cases k1 : evE (g.ctx (clOf X.mg) n) a env st with
      | exc => rw [k1] at q; exact q
      | bad => rw [k1] at q; exact q.elim
      | ok p st1 =>
        rw [k1] at q
        intro v H1 r1 A1 R1 hv
        obtain ⟨r2, env2, st2, p2, R2, E2, hv2, q⟩ := q v H1 r1 A1 R1 hv
        split at q
        · rename_i b e1
          rw [Option.bind_eq_some_iff] at e1
          obtain ⟨U, e2, e3⟩ := e1
          exact ⟨v, .ty T, .type U, .type T, b, rfl, .ty T, ty_of R2 hv2 e2, kit_ty e3, q.here R2 (.bl _)⟩
        · exact q.elim
    exact ⟨main, pt_plain _ main fun _ => rfl⟩
  | .fld i, X, N, sc, so, W, S, e, h, F => snd_fld S i h
  | .ise a c, X, N, sc, so, W, S, e, h, F => by
    cases e <;> first | (cases h; done) | skip
    rename_i fe ees kws pos
    cases fe <;> first | (cases h; done) | skip
    rename_i x p
    have hh : ∃ ee t tp, ees = [ee, .Name t tp] ∧ kws = [] := by
      rcases ees with _ | ⟨a1, _ | ⟨b1, _ | ⟨c1, r1⟩⟩⟩ <;> rcases kws with _ | ⟨k1, ks1⟩ <;> first
        | (cases h; done)
        | (cases b1 <;> first | (cases h; done) | exact ⟨_, _, _, rfl, rfl⟩)
    obtain ⟨ee, t, tp, rfl, rfl⟩ := hh
    have h : (decide (x = ("isinstance" : Str)) && glb sc x && decide (x ∈ g.bs) && decide (t = c) && glb sc t && excOk g c && chkE g N sc a ee) = true := h
    simp only [Bool.and_eq_true, decide_eq_true_eq] at h
    obtain ⟨⟨⟨⟨⟨⟨hx, hg⟩, hb⟩, ht⟩, hgt⟩, hc⟩, h1⟩ := h
    subst hx
    subst ht
    obtain ⟨hgl, hd⟩ := S.gl hg
    have ok1 := chk_okS h1
    obtain ⟨cv, u, nm⟩ := exn_of S hc
    have pt : PE X (.Name t tp) (tC cv) := pe_exn S nm hgt
    have ha : PA X [ee, .Name t tp] (tCons (tI X.K F (sw X.mg W) (evE (g.ctx (clOf X.mg) n) a)) (tCons (tC cv) tNil)) := pa_cons (snd_E a S h1 F).1 (pa_cons pt pa_nil) (okS_star ok1 _ _)
    have main : PE X (.Call (.Name "isinstance" p) [ee, .Name t tp] [] pos) (tI X.K F (sw X.mg W) (evE (g.ctx (clOf X.mg) n) (.ise a t))) := PE.imp (pe_callB call_ise hgl (S.link.bs _ hb) boot_isinstance ha (by decide) hd (okS_star ok1 _ _) rfl) fun σ H Q q => by
      have q := tI.step q
      obtain ⟨r, env, st, R, E, q⟩ := q
      refine ⟨r, env, st, R, E, ?_⟩
      cases k1 : evE (g.ctx (clOf X.mg) n) a env st with
      | exc => rw [k1] at q; exact q
      | bad => rw [k1] at q; exact q.elim
      | ok p st1 =>
        rw [k1] at q
        intro v H1 r1 A1 R1 hv
        obtain ⟨r2, env2, st2, p2, R2, E2, hv2, q⟩ := q v H1 r1 A1 R1 hv
        split at q
        · rename_i b e1
          refine ⟨v, cv, u, b, rfl, nm.cls, q.here R2 (.bl _), ?_⟩
          cases hv2 with
          | non => cases e1; exact .inl ⟨rfl, nm.none S⟩
          | @exn ad D dd c w d z1 z2 z3 =>
            simp only [iseV] at e1
            split at e1
            · rename_i hD
              have e2 : ((g.ecs.lookup c).map fun l => decide (t ∈ l)) = some b := e1
              rw [Option.map_eq_some_iff] at e2
              obtain ⟨anc, hanc, rfl⟩ := e2
              obtain ⟨C, T⟩ := S.link.ec c anc hanc
              have eD : D = C := hD.trans (clOf_eq T.mgc)
              subst eD
              exact .inr ⟨ad, D, dd, _, rfl, z1, z2, T.kit, (T.isa t cv u nm).1⟩
            · cases e1
          | _ => cases e1
        · exact q.elim
    exact ⟨main, pt_plain _ main fun _ => rfl⟩
  | .me m i es, X, N, sc, so, W, S, e, h, F => by
    cases e <;> first | (cases h; done) | skip
    rename_i fe ees kws pos
    cases fe <;> first | (cases h; done) | skip
    rename_i o x apos
    cases o <;> first | (cases h; done) | skip
    rename_i y py
    match kws, h with
    | [], h =>
      have h : (nmOk N sc i y && decide (x = meName m) && (apos.endLine == pos.line) && decide (ees.length ≤ 1) && chkEs g N sc es ees) = true := h
      simp only [Bool.and_eq_true, decide_eq_true_eq] at h
      have q := snd_Es es S h.2
      have main : PE X (.Call (.Attribute (.Name y py) x apos) ees [] pos) (tI X.K F (sw X.mg W) (evE (g.ctx (clOf X.mg) n) (.me m i es))) := sub_me S m i (by rw [h.1.1.1.1]) h.1.1.1.2 h.1.1.2 h.1.2 q.ok (q.pa F) q.len
      exact ⟨main, pt_plain _ main fun _ => rfl⟩
    | _ :: _, h => cases h
  | .slN fr a, X, N, sc, so, W, S, e, h, F => by
    obtain ⟨ea, k, k0, p0, p1, p2, p3, pos, rfl, h⟩ : ∃ ea k k0 p0 p1 p2 p3 pos, e = .Subscript ea (.Slice none (some (.Constant (.int 0) k0 p0)) (some (.UnaryOp .USub (.Constant (.int 1) k p1) p2)) p3) pos ∧ chkE g N sc a ea = true := by
      unfold chkE at h
      split at h <;> first | (cases h; done) | (rename_i z; cases z; done) | skip
      rename_i z
      cases z
      exact ⟨_, _, _, _, _, _, _, _, rfl, h⟩
    have main : PE X (.Subscript ea (.Slice none (some (.Constant (.int 0) k0 p0)) (some (.UnaryOp .USub (.Constant (.int 1) k p1) p2)) p3) pos) (tI X.K F (sw X.mg W) (evE (g.ctx (clOf X.mg) n) (.slN fr a))) :=
      PE.imp (pe_tail (snd_E a S h F).1) fun σ H Q q => by
        have q := tI.step q
        obtain ⟨r, env, st, R, E, q⟩ := q
        refine ⟨r, env, st, R, E, ?_⟩
        cases k1 : evE (g.ctx (clOf X.mg) n) a env st with
        | exc => rw [k1] at q; exact q
        | bad => rw [k1] at q; exact q.elim
        | ok p st1 =>
          rw [k1] at q
          intro v H1 r1 A1 R1 hv
          obtain ⟨r2, env2, st2, p2, R2, E2, hv2, q⟩ := q v H1 r1 A1 R1 hv
          cases hv2 with
          | @tup a vs ps h1 q1 => exact ⟨a, vs, rfl, h1, Post.tup R2 q (q1.drop 1).reverse⟩
          | _ => exact q.elim
    exact ⟨main, pt_plain _ main fun _ => rfl⟩
  | .srt fr own p it el, X, N, sc, so, W, S, e, h, F => by
    obtain ⟨x, px, kx, jb, pb, tg, iter, scope, pd, pos, rfl, h⟩ : ∃ x px kx jb pb tg iter scope pd pos, e = .Call (.Name x px) [.DictComp kx (.Constant (.bool true) jb pb) [⟨tg, iter, [], 0⟩] scope pd] [] pos ∧
        (!g.hot && (decide (x = ("sorted" : Str)) && glb sc x && decide (x ∈ g.bs) && blkC N sc scope (ownL N own) && chkI g N sc it iter && okS iter && (!needsT it || isTgT tg) && decide (∀ i ∈ p.slots, i ∈ own) && chkP N scope p tg && chkE g N (relS scope sc) el kx)) = true := by
      unfold chkE at h
      split at h <;> first | (cases h; done) | (rename_i z; cases z; done) | skip
      rename_i z
      cases z
      exact ⟨_, _, _, _, _, _, _, _, _, _, rfl, h⟩
    obtain ⟨hh, h⟩ := cool_of h
    simp only [Bool.and_eq_true, decide_eq_true_eq] at h
    obtain ⟨⟨⟨⟨⟨⟨⟨⟨⟨rfl, hg⟩, hb⟩, hk⟩, hi⟩, ho⟩, ht⟩, hown⟩, hp⟩, he⟩ := h
    have own2 : (ownL N own).map (·.2) = own := by simp [ownL, List.map_map, Function.comp_def]
    obtain ⟨hgl, hd⟩ := S.gl hg
    have hm := S.link.bs _ hb
    have main : PE X (.Call (.Name "sorted" px) [.DictComp kx (.Constant (.bool true) jb pb) [⟨tg, iter, [], 0⟩] scope pd] [] pos) (tI X.K F (sw X.mg W) (evE (g.ctx (clOf X.mg) n) (.srt fr own p it el))) := by
      have dc := pe_dc (kx := kx) (vx := .Constant (.bool true) jb pb) (tg := tg) (iter := iter) (ifs := []) (scope := scope) (pos := pd) (own := ownL N own) (g := gX X.K p) (tt := tYes) (tk := tX X.K (evE (g.ctx (clOf X.mg) n) el)) (tv := tC (.bl true)) (S.cal.calm hh) (by rw [S.eN]; exact S.nd)
        (snd_I it S hi (fun z => by rw [z] at ht; simpa using ht) F) (blkOk_by (by rw [S.eN, S.eS]; exact hk))
        (fun s H C cl fp => pg_any fun F => (pg_I (S.blk) hh F p tg hp).1) (fun s H C cl fp => pts_nil) (fun s H C cl fp => pe_any fun F => (snd_E el (S.blk) he F).1) (fun s H C cl fp => pe_bl) (fun x => okS_set ho _ _)
      rw [own2] at dc
      exact PE.imp (pe_callB (cr_sortedD (S.cal.calm hh)) hgl hm PyProof.Rows.Boot.«sorted» (pa_cons dc pa_nil) (by decide) hd) fun σ H Q q => srt_read hown q
    exact ⟨main, pt_plain _ main fun _ => rfl⟩
  | .lc fr own p it cs el, X, N, sc, so, W, S, e, h, F => by
    cases e <;> first | (cases h; done) | skip
    rename_i elt gens scope pos
    match gens, h with
    | [⟨tg, iter, ifs, 0⟩], h =>
      obtain ⟨hh, h⟩ := cool_of h
      have h : (blkC N sc scope (ownL N own) && chkI g N sc it iter && okS iter && (!needsT it || isTgT tg) && decide (∀ i ∈ p.slots, i ∈ own) && chkP N scope p tg && decide (ifs.length ≤ 1) && chkEs g N (relS scope sc) cs ifs && chkE g N (relS scope sc) el elt) = true := h
      simp only [Bool.and_eq_true, decide_eq_true_eq] at h
      obtain ⟨⟨⟨⟨⟨⟨⟨⟨hb, hi⟩, ho⟩, ht⟩, hown⟩, hp⟩, hl⟩, hcs⟩, he⟩ := h
      have own2 : (ownL N own).map (·.2) = own := by simp [ownL, List.map_map, Function.comp_def]
      have main : PE X (.ListComp elt [⟨tg, iter, ifs, 0⟩] scope pos) (tI X.K F (sw X.mg W) (evE (g.ctx (clOf X.mg) n) (.lc fr own p it cs el))) := by
        refine PE.imp (pe_lc (own := ownL N own) (g := gX X.K p) (tt := tTX X.K (evTests (g.ctx (clOf X.mg) n) cs)) (te := tX X.K (evE (g.ctx (clOf X.mg) n) el)) (S.cal.calm hh) (by rw [S.eN]; exact S.nd) (snd_I it S hi (fun z => by rw [z] at ht; simpa using ht) F) (blkOk_by (by rw [S.eN, S.eS]; exact hb))
          (fun s H C cl fp => pg_any fun F => (pg_I (S.blk) hh F p tg hp).1) (fun s H C cl fp => (snd_Es cs (S.blk) hcs).ts hl) (fun s H C cl fp => pe_any fun F => (snd_E el (S.blk) he F).1) (fun x => okS_set ho _ _)) fun σ H Q q => ?_
        rw [own2]
        exact lc_read hown q
      exact ⟨main, pt_plain _ main fun _ => rfl⟩
    | [], h => cases h
    | ⟨_, _, _, 0⟩ :: ⟨_, _, _, 0⟩ :: _, h => cases h
    | ⟨_, _, _, 0⟩ :: ⟨_, _, _, (_ + 1 : Nat)⟩ :: _, h => cases h
    | ⟨_, _, _, 0⟩ :: ⟨_, _, _, Int.negSucc _⟩ :: _, h => cases h
    | ⟨_, _, _, (_ + 1 : Nat)⟩ :: _, h => cases h
    | ⟨_, _, _, Int.negSucc _⟩ :: _, h => cases h
  | .lc2 fr own p it cs vs2 p2 it2 cs2 el, X, N, sc, so, W, S, e, h, F => by
    cases e <;> first | (cases h; done) | skip
    rename_i elt gens scope pos
    match gens, h with
    | [⟨tg, iter, ifs, 0⟩, ⟨tg2, iter2, ifs2, 0⟩], h =>
      obtain ⟨hh, h⟩ := cool_of h
      have h : (blkC N sc scope (ownL N own) && chkI g N sc it iter && okS iter && (!needsT it || isTgT tg) && decide (∀ i ∈ p.slots, i ∈ own) && chkP N scope p tg && decide (ifs.length ≤ 1) && chkEs g N (relS scope sc) cs ifs &&
        decide (∀ i ∈ vs2, i ∈ own) && chkI g N (relS scope sc) it2 iter2 && okS iter2 && (!needsT it2 || isTgT tg2) && decide (∀ i ∈ p2.slots, i ∈ vs2) && chkP N scope p2 tg2 && decide (ifs2.length ≤ 1) && chkEs g N (relS scope sc) cs2 ifs2 && chkE g N (relS scope sc) el elt) = true := h
      simp only [Bool.and_eq_true, decide_eq_true_eq] at h
      obtain ⟨⟨⟨⟨⟨⟨⟨⟨⟨⟨⟨⟨⟨⟨⟨⟨hb, hi⟩, ho⟩, ht⟩, hown⟩, hp⟩, hl⟩, hcs⟩, hv⟩, hi2⟩, ho2⟩, ht2⟩, hown2⟩, hp2⟩, hl2⟩, hcs2⟩, he⟩ := h
      have own2 : (ownL N own).map (·.2) = own := by simp [ownL, List.map_map, Function.comp_def]
      have main : PE X (.ListComp elt [⟨tg, iter, ifs, 0⟩, ⟨tg2, iter2, ifs2, 0⟩] scope pos) (tI X.K F (sw X.mg W) (evE (g.ctx (clOf X.mg) n) (.lc2 fr own p it cs vs2 p2 it2 cs2 el))) := by
        refine PE.imp (pe_lc2 (own := ownL N own) (g := gX X.K p) (tt := tTX X.K (evTests (g.ctx (clOf X.mg) n) cs)) (g1 := gX X.K p2) (tt1 := tTX X.K (evTests (g.ctx (clOf X.mg) n) cs2)) (wi1 := iX X.K (evIx (g.ctx (clOf X.mg) n) it2)) (te := tX X.K (evE (g.ctx (clOf X.mg) n) el)) (S.cal.calm hh) (by rw [S.eN]; exact S.nd) (snd_I it S hi (fun z => by rw [z] at ht; simpa using ht) F) (blkOk_by (by rw [S.eN, S.eS]; exact hb)) (by rw [own2]; exact hv)
          (fun s H C cl fp => pg_any fun F => (pg_I (S.blk) hh F p tg hp).1) (fun s H C cl fp => (snd_Es cs (S.blk) hcs).ts hl) (fun s H C cl fp => pi_any fun F => snd_I it2 (S.blk) hi2 (fun z => by rw [z] at ht2; simpa using ht2) F)
          (fun s H C cl fp => pg_any fun F => (pg_I (S.blk) hh F p2 tg2 hp2).1) (fun s H C cl fp => (snd_Es cs2 (S.blk) hcs2).ts hl2) (fun s H C cl fp => pe_any fun F => (snd_E el (S.blk) he F).1) (fun x => okS_set ho _ _) (fun env x => okS_set ho2 _ _)) fun σ H Q q => ?_
        rw [own2]
        exact lc2_read hown hown2 q
      exact ⟨main, pt_plain _ main fun _ => rfl⟩
    | [], h => cases h
    | [⟨_, _, _, 0⟩], h => cases h
    | ⟨_, _, _, 0⟩ :: ⟨_, _, _, 0⟩ :: _ :: _, h => cases h
    | ⟨_, _, _, 0⟩ :: ⟨_, _, _, (_ + 1 : Nat)⟩ :: _, h => cases h
    | ⟨_, _, _, 0⟩ :: ⟨_, _, _, Int.negSucc _⟩ :: _, h => cases h
    | ⟨_, _, _, (_ + 1 : Nat)⟩ :: _, h => cases h
    | ⟨_, _, _, Int.negSucc _⟩ :: _, h => cases h
theorem snd_Es : ∀ (es : Exs) {X : Cx} {N : List Str} {sc so : Scope} {W : WX} (S : Std X g n N sc so W) {ees : List Expr}, chkEs g N sc es ees = true → SndEs X W g n es ees
  | .nil, X, N, sc, so, W, S, ees, h => by
    cases ees with
    | cons a b => cases h
    | nil =>
      refine ⟨rfl, rfl, fun F => PA.imp pa_nil fun σ H Q q => nil_read q, fun kws e F => ?_, fun z => (z rfl).elim, fun z => (z rfl).elim, fun _ => pts_any (Y := sw X.mg W) fun F => PTs.imp pts_nil fun σ H Q q => ?_⟩
      · have : kws = [] := by simpa using e
        subst this
        exact PK.imp pk_nil fun σ H Q q => nil_read q
      · obtain ⟨r, env, st, R, E, q⟩ := q
        exact q H r .refl R
  | .cons ex es, X, N, sc, so, W, S, ees, h => by
    cases ees with
    | nil => cases h
    | cons a as =>
      have h : (okS a && chkE g N sc ex a && chkEs g N sc es as) = true := h
      simp only [Bool.and_eq_true] at h
      have q1 := snd_E ex S h.1.2
      have q2 := snd_Es es S h.2
      refine ⟨by rw [List.all_cons, h.1.1, q2.ok]; rfl, congrArg (· + 1) q2.len, fun F => PA.imp (pa_cons (q1 F).1 (q2.pa F) (okS_star h.1.1 _ _)) fun σ H Q q => cons_read q, fun kws e F => ?_, fun _ F pos => ?_, fun _ F pos => ?_, fun hl => pts_any (Y := sw X.mg W) fun F => ?_⟩
      · cases kws with
        | nil => cases e
        | cons k ks =>
          obtain ⟨nm, v, kp⟩ := k
          simp only [List.map_cons, List.cons.injEq] at e
          obtain ⟨rfl, e⟩ := e
          exact PK.imp (pk_cons (q1 F).1 (q2.pk ks e F)) fun σ H Q q => cons_read q
      · match es, as, q2 with
        | .nil, [], q2 =>
          exact ⟨PE.imp (pe_one (q1 F).1) fun σ H Q q => q, PW.imp (pw_and1 (q1 F).2) fun σ H Q q => q⟩
        | .cons e2 es2, b :: bs, q2 =>
          obtain ⟨p1, p2⟩ := q2.and (by simp) F pos
          exact ⟨PE.imp (pe_andT (q1 F).1 p1) fun σ H Q q => and_read q, PW.imp (pw_and (q1 F).2 p2) fun σ H Q q => by
            have q := tIT.step2 (f := fun k env st1 => if k = true then (evAnd (g.ctx (clOf X.mg) n) (.cons e2 es2) env st1).bind fun x st1 => Out.of (truthy st1 x) st1 else .ok false st1) (tIT.eq q fun env st => evAnd_test _ ex e2 es2 env st)
            obtain ⟨r, env, st, R, E, q⟩ := q
            refine ⟨r, env, st, R, E, ?_⟩
            cases k1 : evC (g.ctx (clOf X.mg) n) ex env st with
            | exc => rw [k1] at q; exact q
            | bad => rw [k1] at q; exact q.elim
            | ok k st1 =>
              rw [k1] at q
              intro H1 r1 A1 R1
              have q := q H1 r1 A1 R1
              cases k with
              | true => exact q
              | false =>
                obtain ⟨r2, env2, st2, R2, E2, q⟩ := q
                exact q H1 r2 .refl R2⟩
        | .nil, _ :: _, q2 => have := q2.len; simp [Exs.length] at this
        | .cons _ _, [], q2 => have := q2.len; simp [Exs.length] at this
      · match es, as, q2 with
        | .nil, [], q2 =>
          exact ⟨PE.imp (pe_one (q1 F).1) fun σ H Q q => q, PW.imp (pw_or1 (q1 F).2) fun σ H Q q => q⟩
        | .cons e2 es2, b :: bs, q2 =>
          obtain ⟨p1, p2⟩ := q2.or (by simp) F pos
          exact ⟨PE.imp (pe_orT (q1 F).1 p1) fun σ H Q q => or_read q, PW.imp (pw_or (q1 F).2 p2) fun σ H Q q => by
            have q := tIT.step2 (f := fun k env st1 => if k = true then .ok true st1 else (evOr (g.ctx (clOf X.mg) n) (.cons e2 es2) env st1).bind fun x st1 => Out.of (truthy st1 x) st1) (tIT.eq q fun env st => evOr_test _ ex e2 es2 env st)
            obtain ⟨r, env, st, R, E, q⟩ := q
            refine ⟨r, env, st, R, E, ?_⟩
            cases k1 : evC (g.ctx (clOf X.mg) n) ex env st with
            | exc => rw [k1] at q; exact q
            | bad => rw [k1] at q; exact q.elim
            | ok k st1 =>
              rw [k1] at q
              intro H1 r1 A1 R1
              have q := q H1 r1 A1 R1
              cases k with
              | false => exact q
              | true =>
                obtain ⟨r2, env2, st2, R2, E2, q⟩ := q
                exact q H1 r2 .refl R2⟩
        | .nil, _ :: _, q2 => have := q2.len; simp [Exs.length] at this
        | .cons _ _, [], q2 => have := q2.len; simp [Exs.length] at this
      · cases as with
        | cons b bs => simp at hl
        | nil => exact PTs.imp (pts_one (q1 F).2) fun σ H Q q => q
theorem snd_I : ∀ (it : Ix) {X : Cx} {N : List Str} {sc so : Scope} {W : WX} (S : Std X g n N sc so W) {iter : Expr}, chkI g N sc it iter = true → ∀ {tg : Expr}, (needsT it = true → isTgT tg = true) → ∀ F, PI X tg iter (iI X.K F (sw X.mg W) (evIx (g.ctx (clOf X.mg) n) it))
  | .val ex, X, N, sc, so, W, S, iter, h, tg, hT, F => by
    have h : (okS iter && chkE g N sc ex iter) = true := by
      unfold chkI at h
      exact h
    simp only [Bool.and_eq_true] at h
    have q1 := (snd_E ex S h.2 F).1
    have both : PI X tg iter (fun σ H R => iList X.K (tI X.K F (sw X.mg W) (evE (g.ctx (clOf X.mg) n) ex)) σ H R ∨ iTup X.K (tI X.K F (sw X.mg W) (evE (g.ctx (clOf X.mg) n) ex)) σ H R) :=
      ⟨fun pins s σ H R I q => q.elim (fun q => (pi_list q1).run pins s σ H R I q) fun q => (pi_tup q1).run pins s σ H R I q⟩
    refine PI.imp both fun σ H R q => ?_
    obtain ⟨r, env, st, Rr, E, q⟩ := q
    simp only [evIx] at q
    cases k1 : evE (g.ctx (clOf X.mg) n) ex env st with
    | exc => rw [k1] at q; exact .inl ⟨r, env, st, Rr, E, by rw [k1]; exact q⟩
    | bad => rw [k1] at q; exact q.elim
    | ok p st1 =>
      rw [k1] at q
      simp only [bind_ok] at q
      cases k2 : seqA st1 p with
      | none => rw [k2] at q; exact q.elim
      | some xs =>
        rw [k2] at q
        cases p with
        | tup ds =>
          cases k2
          refine .inr ⟨r, env, st, Rr, E, ?_⟩
          rw [k1]
          intro v H1 r1 A1 R1 hv
          cases hv with
          | @tup a vs _ hs hq => exact ⟨a, rfl, ⟨vs, hs⟩, q H1 r1 _ A1 R1 (JOk.tup R1 hs hq)⟩
        | lsv ds =>
          cases k2
          refine .inl ⟨r, env, st, Rr, E, ?_⟩
          rw [k1]
          intro v H1 r1 A1 R1 hv
          cases hv with
          | @lsv a vs _ hs hq => exact ⟨a, rfl, ⟨vs, hs.seq⟩, q H1 r1 _ A1 R1 (JOk.lsv R1 hs hq)⟩
        | loc i =>
          refine .inl ⟨r, env, st, Rr, E, ?_⟩
          rw [k1]
          intro v H1 r1 A1 R1 hv
          cases hv with
          | @loc a _ hl =>
            obtain ⟨ys, vs, c1, c2, _⟩ := R1.cell hl
            exact ⟨a, rfl, ⟨vs, .of c2⟩, q H1 r1 _ A1 R1 (JOk.loc hl)⟩
        | _ => cases k2
  | .rng1 a, X, N, sc, so, W, S, iter, h, tg, hT, F => by
    cases iter <;> first | (cases h; done) | skip
    rename_i fe ees kws pos
    cases fe <;> first | (cases h; done) | skip
    rename_i x p
    match ees, kws, h with
    | [ea], [], h =>
      have h : (decide (x = ("range" : Str)) && glb sc x && decide (x ∈ g.bs) && okS ea && chkE g N sc a ea) = true := h
      simp only [Bool.and_eq_true, decide_eq_true_eq] at h
      obtain ⟨⟨⟨⟨rfl, hg⟩, hb⟩, ho⟩, h1⟩ := h
      obtain ⟨hgl, hd⟩ := S.gl hg
      have ha : PA X [ea] (tCons (tI X.K F (sw X.mg W) (evE (g.ctx (clOf X.mg) n) a)) tNil) := pa_cons (snd_E a S h1 F).1 pa_nil (okS_star ho _ _)
      refine PI.imp (pi_range1 hgl (S.link.bs _ hb) ha (okS_star ho _ _)) fun σ H R q => ?_
      obtain ⟨r, env, st, Rr, E, q⟩ := q
      refine ⟨r, env, st, Rr, E, ?_⟩
      simp only [evIx] at q
      cases k1 : evE (g.ctx (clOf X.mg) n) a env st with
      | exc => rw [k1] at q; exact q
      | bad => rw [k1] at q; exact q.elim
      | ok p st1 =>
        rw [k1] at q
        simp only [bind_ok] at q
        intro v H1 r1 A1 R1 hv
        cases hv with
        | int j =>
          unfold rngV1 at q
          dsimp only at q
          split at q
          · rename_i hz
            have hz : -(2 ^ 62) ≤ j ∧ j < 2 ^ 62 := hz
            exact ⟨j, rfl, hz.1, hz.2, q H1 r1 _ A1 R1 (JOk.rng 0 j.toNat)⟩
          · exact q.elim
        | _ => exact q.elim
    | [], _, h => cases h
    | [_], _ :: _, h => cases h
    | _ :: _ :: _, [], h => cases h
    | _ :: _ :: _, _ :: _, h => cases h
  | .rng2 a b, X, N, sc, so, W, S, iter, h, tg, hT, F => by
    cases iter <;> first | (cases h; done) | skip
    rename_i fe ees kws pos
    cases fe <;> first | (cases h; done) | skip
    rename_i x p
    match ees, kws, h with
    | [ea, eb], [], h =>
      have h : (decide (x = ("range" : Str)) && glb sc x && decide (x ∈ g.bs) && okS ea && okS eb && chkE g N sc a ea && chkE g N sc b eb) = true := h
      simp only [Bool.and_eq_true, decide_eq_true_eq] at h
      obtain ⟨⟨⟨⟨⟨⟨rfl, hg⟩, hb⟩, ho⟩, ho2⟩, h1⟩, h2⟩ := h
      obtain ⟨hgl, hd⟩ := S.gl hg
      have ha : PA X [ea, eb] (tCons (tI X.K F (sw X.mg W) (evE (g.ctx (clOf X.mg) n) a)) (tCons (tI X.K F (sw X.mg W) (evE (g.ctx (clOf X.mg) n) b)) tNil)) := pa_cons (snd_E a S h1 F).1 (pa_cons (snd_E b S h2 F).1 pa_nil (okS_star ho2 _ _)) (okS_star ho _ _)
      refine PI.imp (pi_range2 hgl (S.link.bs _ hb) ha (by rw [okS_star ho, okS_star ho2]; rfl) (by rw [okS_star ho2]; rfl)) fun σ H R q => ?_
      obtain ⟨r, env, st, Rr, E, q⟩ := q
      refine ⟨r, env, st, Rr, E, ?_⟩
      simp only [evIx] at q
      cases k1 : evE (g.ctx (clOf X.mg) n) a env st with
      | exc => rw [k1] at q; exact q
      | bad => rw [k1] at q; exact q.elim
      | ok p st1 =>
        rw [k1] at q
        simp only [bind_ok] at q
        intro v H1 r1 A1 R1 hv
        refine ⟨r1, env, st1, R1, E.aft Rr A1, ?_⟩
        cases k2 : evE (g.ctx (clOf X.mg) n) b env st1 with
        | exc => rw [k2] at q; exact PostX.aft q A1
        | bad => rw [k2] at q; exact q.elim
        | ok p2 st2 =>
          rw [k2] at q
          simp only [bind_ok] at q
          intro v2 H2 r2 A2 R2 hv2
          cases hv with
          | int i =>
            cases hv2 with
            | int j =>
              unfold rngV2 at q
              dsimp only at q
              split at q
              · rename_i hz
                obtain ⟨y1, y2⟩ := hz
                have y1 : -(2 ^ 62) ≤ i ∧ i < 2 ^ 62 := y1
                have y2 : -(2 ^ 62) ≤ j ∧ j < 2 ^ 62 := y2
                exact ⟨i, j, rfl, ⟨y1.1, y1.2, y2.1, y2.2⟩, q H2 r2 _ (A1.trans A2) R2 (JOk.rng i (j - i).toNat)⟩
              · exact q.elim
            | _ => exact q.elim
          | _ => cases hv2 <;> exact q.elim
    | [], _, h => cases h
    | [_], [], h => cases h
    | [_], _ :: _, h => cases h
    | [_, _], _ :: _, h => cases h
    | _ :: _ :: _ :: _, [], h => cases h
    | _ :: _ :: _ :: _, _ :: _, h => cases h
  | .rng3 a b c, X, N, sc, so, W, S, iter, h, tg, hT, F => by
    cases iter <;> first | (cases h; done) | skip
    rename_i fe ees kws pos
    cases fe <;> first | (cases h; done) | skip
    rename_i x p
    have hh : ∃ ea eb k q1 q2 q3, ees = [ea, eb, .UnaryOp .USub (.Constant (.int k) q1 q2) q3] ∧ kws = [] := by
      rcases ees with _ | ⟨a1, _ | ⟨b1, _ | ⟨c1, _ | ⟨d1, r1⟩⟩⟩⟩ <;> rcases kws with _ | ⟨k1, ks1⟩ <;> first
        | (cases h; done)
        | (cases c1 <;> first
            | (cases h; done)
            | (rename_i o1 z1 p1
               cases o1 <;> first
                | (cases h; done)
                | (cases z1 <;> first
                    | (cases h; done)
                    | (rename_i c2 _ _
                       cases c2 <;> first
                        | (cases h; done)
                        | exact ⟨_, _, _, _, _, _, rfl, rfl⟩))))
    obtain ⟨ea, eb, k, q1, q2, q3, rfl, rfl⟩ := hh
    have h : (decide (x = ("range" : Str)) && glb sc x && decide (x ∈ g.bs) && okS ea && okS eb && decide (c = -k) && chkE g N sc a ea && chkE g N sc b eb) = true := h
    simp only [Bool.and_eq_true, decide_eq_true_eq] at h
    obtain ⟨⟨⟨⟨⟨⟨⟨rfl, hg⟩, hb⟩, ho⟩, ho2⟩, hc⟩, h1⟩, h2⟩ := h
    obtain ⟨hgl, hd⟩ := S.gl hg
    have ha : PA X [ea, eb, .UnaryOp .USub (.Constant (.int k) q1 q2) q3] (tCons (tI X.K F (sw X.mg W) (evE (g.ctx (clOf X.mg) n) a)) (tCons (tI X.K F (sw X.mg W) (evE (g.ctx (clOf X.mg) n) b)) (tCons (tUn (rU fun i => .int (-i)) (tC (.int k))) tNil))) :=
      pa_cons (snd_E a S h1 F).1 (pa_cons (snd_E b S h2 F).1 (pa_cons (pe_un un_neg pe_int) pa_nil) (okS_star ho2 _ _)) (okS_star ho _ _)
    refine PI.imp (pi_range3 hgl (S.link.bs _ hb) ha (by rw [okS_star ho]) (by rw [okS_star ho2]; rfl)) fun σ H R q => ?_
    obtain ⟨r, env, st, Rr, E, q⟩ := q
    refine ⟨r, env, st, Rr, E, ?_⟩
    simp only [evIx] at q
    cases k1 : evE (g.ctx (clOf X.mg) n) a env st with
    | exc => rw [k1] at q; exact q
    | bad => rw [k1] at q; exact q.elim
    | ok p st1 =>
      rw [k1] at q
      simp only [bind_ok] at q
      intro v H1 r1 A1 R1 hv
      refine ⟨r1, env, st1, R1, E.aft Rr A1, ?_⟩
      cases k2 : evE (g.ctx (clOf X.mg) n) b env st1 with
      | exc => rw [k2] at q; exact PostX.aft q A1
      | bad => rw [k2] at q; exact q.elim
      | ok p2 st2 =>
        rw [k2] at q
        simp only [bind_ok] at q
        intro v2 H2 r2 A2 R2 hv2
        refine ⟨k, rfl, ?_⟩
        cases hv with
        | int i =>
          cases hv2 with
          | int j =>
            unfold rngV3 at q
            dsimp only at q
            split at q
            · rename_i hz
              obtain ⟨z0, y1, y2⟩ := hz
              have y1 : -(2 ^ 60) ≤ i ∧ i < 2 ^ 60 := y1
              have y2 : -(2 ^ 60) ≤ j ∧ j < 2 ^ 60 := y2
              obtain ⟨z1, z2⟩ := y1
              obtain ⟨z3, z4⟩ := y2
              have hk : -k = -1 := by rw [← hc]; exact z0
              rw [z0] at q
              refine ⟨i, j, -1, (i - j).toNat, by show [V.int i, V.int j, V.int (-k)] = _; rw [hk], RgC.neg (by omega) (by omega) (by omega) (by omega), q H2 r2 _ (A1.trans A2) R2 (JOk.rngC i (-1) (i - j).toNat)⟩
            · exact q.elim
          | _ => exact q.elim
        | _ => cases hv2 <;> exact q.elim
  | .zip a b, X, N, sc, so, W, S, iter, h, tg, hT, F => by
    cases iter <;> first | (cases h; done) | skip
    rename_i fe ees kws pos
    cases fe <;> first | (cases h; done) | skip
    rename_i x p
    have hT := hT rfl
    cases tg <;> first | (cases hT; done) | skip
    match ees, kws, h with
    | [ea, eb], [], h =>
      have h : (decide (x = ("zip" : Str)) && glb sc x && decide (x ∈ g.bs) && okS ea && okS eb && chkE g N sc a ea && chkE g N sc b eb) = true := h
      simp only [Bool.and_eq_true, decide_eq_true_eq] at h
      obtain ⟨⟨⟨⟨⟨⟨rfl, hg⟩, hb⟩, ho⟩, ho2⟩, h1⟩, h2⟩ := h
      obtain ⟨hgl, hd⟩ := S.gl hg
      have ha : PA X [ea, eb] (tCons (tI X.K F (sw X.mg W) (evE (g.ctx (clOf X.mg) n) a)) (tCons (tI X.K F (sw X.mg W) (evE (g.ctx (clOf X.mg) n) b)) tNil)) := pa_cons (snd_E a S h1 F).1 (pa_cons (snd_E b S h2 F).1 pa_nil (okS_star ho2 _ _)) (okS_star ho _ _)
      refine PI.imp (RZ.pi_zipA hgl (S.link.bs _ hb) ha (by rw [okS_star ho]) (by rw [okS_star ho2]; rfl)) fun σ H R q => ?_
      obtain ⟨r, env, st, Rr, E, q⟩ := q
      refine ⟨r, env, st, Rr, E, ?_⟩
      simp only [evIx] at q
      cases k1 : evE (g.ctx (clOf X.mg) n) a env st with
      | exc => rw [k1] at q; exact q
      | bad => rw [k1] at q; exact q.elim
      | ok p st1 =>
        rw [k1] at q
        simp only [bind_ok] at q
        intro v H1 r1 A1 R1 hv
        refine ⟨r1, env, st1, R1, E.aft Rr A1, ?_⟩
        cases k2 : evE (g.ctx (clOf X.mg) n) b env st1 with
        | exc => rw [k2] at q; exact PostX.aft q A1
        | bad => rw [k2] at q; exact q.elim
        | ok p2 st2 =>
          rw [k2] at q
          simp only [bind_ok] at q
          intro v2 H2 r2 A2 R2 hv2
          have q := q.aft (A1.trans A2)
          have hv := hv.aft R1 A2
          have gen : ∀ {xs ys : List PV}, seqL st2 p = some xs → seqL st2 p2 = some ys → PostI X.K F (sw X.mg W σ) r2 H2 R (.ok ((xs.zip ys).map fun p => .tup [p.1, p.2], watchOf p xs ++ watchOf p2 ys) st2) →
              ∃ a b xs ys, [v, v2] = [.ref a, .ref b] ∧ ((SqL X.K H2 a xs ∧ SqL X.K H2 b ys ∧ R (Itz X.K a b) H2) ∨ (SqT X.K H2 a xs ∧ SqT X.K H2 b ys ∧ R (RZ.ItzT X.K a b) H2)) := by
            intro xs ys e1 e2 q
            obtain ⟨a1, b1, rfl, rfl, j⟩ := JOk.zipL R2 hv e1 hv2 e2
            obtain ⟨a2, us, z1, s1, _⟩ := hv.seqL R2 e1
            obtain ⟨b2, ws, z2, s2, _⟩ := hv2.seqL R2 e2
            cases z1; cases z2
            exact ⟨a1, b1, us, ws, rfl, .inl ⟨s1, s2, q H2 r2 _ .refl R2 j⟩⟩
          have lists : zipV st2 p p2 = zipL st2 p p2 ∨ ∃ xs ys, p = .tup xs ∧ p2 = .tup ys := by
            cases p <;> cases p2 <;> first | exact .inl rfl | exact .inr ⟨_, _, rfl, rfl⟩
          rcases lists with e | ⟨xs, ys, rfl, rfl⟩
          · rw [e] at q
            unfold zipL at q
            split at q
            · exact gen (by assumption) (by assumption) q
            · exact q.elim
          · cases hv with
            | @tup a1 us _ hs hq =>
              cases hv2 with
              | @tup b1 ws _ hs2 hq2 => exact ⟨a1, b1, us, ws, rfl, .inr ⟨hs, hs2, q H2 r2 _ .refl R2 (JOk.zipT R2 hs hq hs2 hq2)⟩⟩
    | [], _, h => cases h
    | [_], [], h => cases h
    | [_], _ :: _, h => cases h
    | [_, _], _ :: _, h => cases h
    | _ :: _ :: _ :: _, [], h => cases h
    | _ :: _ :: _ :: _, _ :: _, h => cases h
  | .enm a, X, N, sc, so, W, S, iter, h, tg, hT, F => by
    cases iter <;> first | (cases h; done) | skip
    rename_i fe ees kws pos
    cases fe <;> first | (cases h; done) | skip
    rename_i x p
    have hT := hT rfl
    cases tg <;> first | (cases hT; done) | skip
    match ees, kws, h with
    | [ea], [], h =>
      have h : (decide (x = ("enumerate" : Str)) && glb sc x && decide (x ∈ g.bs) && okS ea && chkE g N sc a ea) = true := h
      simp only [Bool.and_eq_true, decide_eq_true_eq] at h
      obtain ⟨⟨⟨⟨rfl, hg⟩, hb⟩, ho⟩, h1⟩ := h
      obtain ⟨hgl, hd⟩ := S.gl hg
      have ha : PA X [ea] (tCons (tI X.K F (sw X.mg W) (evE (g.ctx (clOf X.mg) n) a)) tNil) := pa_cons (snd_E a S h1 F).1 pa_nil (okS_star ho _ _)
      refine PI.imp (pi_enum hgl (S.link.bs _ hb) ha (okS_star ho _ _)) fun σ H R q => ?_
      obtain ⟨r, env, st, Rr, E, q⟩ := q
      refine ⟨r, env, st, Rr, E, ?_⟩
      simp only [evIx] at q
      cases k1 : evE (g.ctx (clOf X.mg) n) a env st with
      | exc => rw [k1] at q; exact q
      | bad => rw [k1] at q; exact q.elim
      | ok p st1 =>
        rw [k1] at q
        simp only [bind_ok] at q
        intro v H1 r1 A1 R1 hv
        split at q
        · rename_i xs e1
          obtain ⟨a1, rfl, j⟩ := JOk.enm R1 hv e1
          obtain ⟨a2, us, z1, s1, _⟩ := hv.seqL R1 e1
          cases z1
          exact ⟨a1, us, rfl, s1, q H1 r1 _ A1 R1 j⟩
        · exact q.elim
    | [], _, h => cases h
    | [_], _ :: _, h => cases h
    | _ :: _ :: _, [], h => cases h
    | _ :: _ :: _, _ :: _, h => cases h
end
end
end L2.Iv

/-! IvJ: statements do what the language says. Own work. -/
namespace L2.Iv
open PySem PySem.Spec PyProof.Rows

/-! ### the model's exchange of stores -/
def swNames (sc : Scope) (ts : List Expr) : List Str := ts.filterMap fun
  | .Name id pos => if sc.names.lookup id == some .local && pos.line == (ts.head?.map (·.pos.line)).getD 0 then some id else none
  | _ => none
def isStar : Expr → Bool
  | .Starred .. => true
  | _ => false
/-- 0: nothing is exchanged; 1: the names are stored from the right; 2: the model says nothing -/
def swB (sc : Scope) (ts vs : List Expr) : Nat :=
  if !(ts.length == 2 || ts.length == 3) || vs.length != ts.length then 0
  else if vs.any isStar then 0
  else if (swNames sc ts).length != ts.length || (swNames sc ts).eraseDups.length != (swNames sc ts).length then 0
  else if vs.all (foldedForSure 8) then 0
  else if vs.all (constantsAlone 8) then 2
  else 1
theorem sw_form (env : PySem.Env) (ts vs : List Expr) (k k2 : Nat) (p p2 : Pos) : swappedStores [.Tuple ts k p] (.Tuple vs k2 p2) env =
    (if (!(ts.length == 2 || ts.length == 3) || vs.length != ts.length || env.blockKind != .function) = true then pure none
     else if (vs.any isStar) = true then pure none
     else if ((swNames env.scope ts).length != ts.length || (swNames env.scope ts).eraseDups.length != (swNames env.scope ts).length) = true then pure none
     else if vs.all (foldedForSure 8) = true then pure none
     else if vs.all (constantsAlone 8) = true then (do unsupported "assign.tuple-of-constant-expressions:order-of-the-stores"; pure (some (swNames env.scope ts)))
     else pure (some (swNames env.scope ts))) := by
  unfold swappedStores
  rfl
theorem sw_gen {sc : Scope} {env : PySem.Env} (hs : env.scope = sc) (hk : sc.kind = .function) (ts vs : List Expr) (k k2 : Nat) (p p2 : Pos) :
    (swB sc ts vs = 0 → swappedStores [.Tuple ts k p] (.Tuple vs k2 p2) env = pure none) ∧ (swB sc ts vs = 1 → swappedStores [.Tuple ts k p] (.Tuple vs k2 p2) env = pure (some (swNames sc ts))) := by
  have hb : (env.blockKind != .function) = false := by unfold Env.blockKind; rw [hs, hk]; rfl
  rw [sw_form, hb, Bool.or_false, hs]
  unfold swB
  by_cases c1 : (!(ts.length == 2 || ts.length == 3) || vs.length != ts.length) = true
  · rw [if_pos c1, if_pos c1]
    exact ⟨fun _ => rfl, fun z => by cases z⟩
  rw [if_neg c1, if_neg c1]
  by_cases c2 : (vs.any isStar) = true
  · rw [if_pos c2, if_pos c2]
    exact ⟨fun _ => rfl, fun z => by cases z⟩
  rw [if_neg c2, if_neg c2]
  by_cases c3 : ((swNames sc ts).length != ts.length || (swNames sc ts).eraseDups.length != (swNames sc ts).length) = true
  · rw [if_pos c3, if_pos c3]
    exact ⟨fun _ => rfl, fun z => by cases z⟩
  rw [if_neg c3, if_neg c3]
  by_cases c4 : vs.all (foldedForSure 8) = true
  · rw [if_pos c4, if_pos c4]
    exact ⟨fun _ => rfl, fun z => by cases z⟩
  rw [if_neg c4, if_neg c4]
  by_cases c5 : vs.all (constantsAlone 8) = true
  · rw [if_pos c5, if_pos c5]
    exact ⟨(fun z => by cases z), fun z => by cases z⟩
  rw [if_neg c5, if_neg c5]
  exact ⟨(fun z => by cases z), fun _ => rfl⟩
theorem sw_other {ts : List Expr} {k : Nat} {p : Pos} {e : Expr} (env : PySem.Env) (h : isTgT e = false) : swappedStores [.Tuple ts k p] e env = pure none := by
  cases e <;> first | rfl | cases h
theorem sw_sub {o i : Expr} {p : Pos} (e : Expr) (env : PySem.Env) : swappedStores [.Subscript o i p] e env = pure none := by
  cases e <;> rfl

/-! ### the text of statements -/
/-- name = a comprehension: whether the model stores it from within -/
def swLC (sc scope : Scope) (y : Str) (py pos : Pos) : Bool := (sc.names.lookup y == some .local) && (py.line == pos.line) && !(scope.names.any fun (n, k) => n == y && (k == .local || k == .cell))
theorem sw_lc {sc : Scope} {env : PySem.Env} (hs : env.scope = sc) (hk : sc.kind = .function) {elt : Expr} {gs : List Comprehension} {scope : Scope} {y : Str} {py pos : Pos} (l : Nat) :
    swapsWith (.ListComp elt gs scope pos) (some (.Name y py)) l env = pure (swLC sc scope y py pos) := by
  have hb : env.blockKind = .function := by unfold Env.blockKind; rw [hs, hk]; rfl
  have e : swapsWith (.ListComp elt gs scope pos) (some (.Name y py)) l env = pure (env.blockKind == .function && env.kindOf y == some .local && py.line == pos.line && !(scope.names.any fun (n, k) => n == y && (k == .local || k == .cell))) := rfl
  rw [e, hb]
  unfold swLC Env.kindOf
  rw [hs]
  rfl
theorem lk_local {o : Option NameKind} (h : (o == some .local) = true) : o = some .local := by
  cases o with
  | none => cases h
  | some k => cases k <;> first | rfl | cases h
def tyTup : Expr → Option (List Expr)
  | .Tuple vs _ _ => some vs
  | _ => none
def isLoc (sc : Scope) (x : Str) : Bool := sc.names.lookup x == some .local
/-- plain local names, stored from the right -/
def parOk (sc : Scope) : Pt → List Expr → Bool
  | .t2 (.n i) (.n j), [.Name x px, .Name y py] => decide (i ≠ j) && isLoc sc x && isLoc sc y && decide (swNames sc [.Name x px, .Name y py] = [x, y])
  | .t3 (.n i) (.n j) (.n l), [.Name x px, .Name y py, .Name z pz] => decide (i ≠ j) && decide (i ≠ l) && decide (j ≠ l) && isLoc sc x && isLoc sc y && isLoc sc z && decide (swNames sc [.Name x px, .Name y py, .Name z pz] = [x, y, z])
  | _, _ => false
def tupOk (sc : Scope) (p : Pt) (ts : List Expr) : Expr → Bool
  | .Tuple vs _ _ => decide (swB sc ts vs = 0) || (decide (swB sc ts vs = 1) && parOk sc p ts)
  | _ => true
mutual
def chkS (g : Sg) (N : List Str) (sc so : Scope) : Sx → Stmt → Bool
  | .expr e, .Expr ee _ => !isLC ee && chkE g N sc e ee
  | .asg (.p (.n i)) e, .Assign [.Name x px] ee pos => (!g.hot || !isLC ee) && chkP N so (.n i) (.Name x px) && chkE g N sc e ee
  | .asg (.p p) e, .Assign [.Tuple ts k pt] ee pos => !g.hot && (chkP N so p (.Tuple ts k pt) && !isLC ee && chkE g N sc e ee && tupOk sc p ts ee)
  | .asg (.sub o i) e, .Assign [.Subscript eo ei _] ee _ => okS ei && !isLC ee && chkE g N sc o eo && chkE g N sc i ei && chkE g N sc e ee
  | .aug i o e, .AugAssign (.Name x px) op ee _ => decide (op = opB o) && chkP N so (.n i) (.Name x px) && chkE g N sc e ee
  | .augS o i op e, .AugAssign (.Subscript eo ei _) eop ee _ => decide (eop = opB op) && okS ei && chkE g N sc o eo && chkE g N sc i ei && chkE g N sc e ee
  | .iff c a b, .If ec as bs _ => chkE g N sc c ec && chkSs g N sc so a as && chkSs g N sc so b bs
  | .fr p it b, .For tg iter bs [] _ => !g.hot && (chkI g N sc it iter && okS iter && (!needsT it || isTgT tg) && chkP N so p tg && chkSs g N sc so b bs)
  | .wh c b, .While ec bs [] _ => !g.hot && (chkE g N sc c ec && chkSs g N sc so b bs)
  | .ret e, .Return (some ee) _ => chkE g N sc e ee
  | .retn, .Return none _ => true
  | .brk, .Break _ => true
  | .cont, .Continue _ => true
  | .pass, .Pass _ => true
  | .nev, _ => true
  | .rs c e, .Raise (some (.Call (.Name x _) [ee] [] _)) none _ => !g.hot && (decide (x = c) && glb sc x && (g.ecs.lookup c).isSome && chkE g N sc e ee)
  | .tr b hs, .Try body hds [] [] _ => !g.hot && (chkSs g N sc so b body && !hds.isEmpty && chkH g N sc so hs hds)
  | _, _ => false
def chkSs (g : Sg) (N : List Str) (sc so : Scope) : Sxs → List Stmt → Bool
  | .nil, [] => true
  | .cons s r, st :: sts => chkS g N sc so s st && chkSs g N sc so r sts
  | _, _ => false
def chkH (g : Sg) (N : List Str) (sc so : Scope) : Hds → List ExceptHandler → Bool
  | .nil, [] => true
  | .cons c none b r, .ExceptHandler (some (.Name x _)) none (b0 :: bs) _ :: hds => decide (x = c) && glb sc x && excOk g c && chkSs g.heat N sc so b (b0 :: bs) && chkH g N sc so r hds
  | .cons c (some i) b r, .ExceptHandler (some (.Name x _)) (some n) (b0 :: bs) _ :: hds => decide (x = c) && glb sc x && excOk g c && decide (N[i]? = some n) && isLoc sc n && chkSs g.heat N sc so b (b0 :: bs) && chkH g N sc so r hds
  | _, _ => false
end

/-! ### readings -/
section
variable {K : PySem.W.Frag} {Y : SW} {F : List Addr} {H H' : Hp} {r r' : List Addr} {st : Store} {env : Env} {σ : St} {D : Ends}
theorem tIS.eq {o o' : Env → Store → Out Fl} (h : tIS K F Y o D σ H) (e : ∀ env st, o env st = o' env st) : tIS K F Y o' D σ H := by
  obtain ⟨r, env, st, R, E, h⟩ := h
  exact ⟨r, env, st, R, E, by rw [← e]; exact h⟩
/-- how a loop's body ends, said of the loop's own end -/
theorem loop_step {w : Watch} {f : PV → Env → Store → Out Fl} {x : PV} {xs : List PV} {o : Out Fl} (h : loopF w f (x :: xs) env st = o) (hb : o ≠ .bad) (hx : ∀ c v s2, o ≠ .exc c v s2) : watchOk w st ∧ ∃ fl st1, f x env st = .ok fl st1 ∧ match fl with
    | .nx e => loopF w f xs e st1 = o
    | .ct e => loopF w f xs e st1 = o
    | .bk e => .ok (.nx e) st1 = o
    | .rt v => .ok (.rt v) st1 = o
    | .rz c v e => .ok (.rz c v e) st1 = o := by
  unfold loopF at h
  split at h
  · rename_i hw
    cases e : f x env st with
    | bad => rw [e] at h; exact absurd h.symm hb
    | exc c v s2 => rw [e] at h; exact absurd h.symm (hx c v s2)
    | ok fl st1 =>
      rw [e] at h
      refine ⟨hw, fl, st1, rfl, ?_⟩
      cases fl <;> exact h
  · exact absurd h.symm hb
theorem PostS.good {o : Out Fl} (h : PostS K F Y r H D o) : o ≠ .bad ∧ ∀ c v s2, o ≠ .exc c v s2 := by
  refine ⟨?_, ?_⟩
  · rintro rfl; exact h
  · rintro c v s2 rfl; exact h
theorem for_read {C : Ctx} {p : Pt} {it : Ix} {b : Sxs} (h : tIS K F Y (evS C (.fr p it b)) D σ H) : tFor (iI K F Y (evIx C it)) (gI K F p) (tIS K F Y (evSs C b)) D σ H := by
  obtain ⟨r, env, st, R, E, h⟩ := h
  simp only [evS] at h
  refine ⟨r, env, st, R, E, ?_⟩
  cases hi : evIx C it env st with
  | exc => rw [hi] at h; exact fun v H1 r1 A1 R1 hv => h σ v H1 r1 A1 R1 (E.aft R A1) hv
  | bad => rw [hi] at h; exact h.elim
  | ok xw st1 =>
    rw [hi] at h
    simp only [bind_ok, lift_ok] at h
    intro H1 r1 J A1 R1 j
    have h := h.aft A1
    generalize hf : (fun x env st => match asgP p x env with
      | some env1 => evSs C b env1 st
      | none => Out.bad) = f at h
    obtain ⟨hb, hx⟩ := h.good
    generalize hO : loopF xw.2 f xw.1 env st1 = O at h hb hx
    refine ⟨fun i m σ' H' => i ≤ xw.1.length ∧ m = xw.1.length - i ∧ ∃ r2 env2 st2, Aft r1 H1 r2 H' ∧ Rel K F H' r2 st2 ∧ EnvRel K F H' r2 env2 σ' ∧ loopF xw.2 f (xw.1.drop i) env2 st2 = O,
      ⟨_, Nat.zero_le _, rfl, r1, env, st1, .refl, R1, E.aft R A1, by rw [List.drop_zero]; exact hO⟩, ?_⟩
    rintro i m σ' H' ⟨hi2, rfl, r2, env2, st2, A2, R2, E2, hl⟩
    by_cases hlt : i < xw.1.length
    · right
      obtain ⟨x, hx2, hd⟩ := drop_get hlt
      rw [hd] at hl
      obtain ⟨hw, fl, st3, hfl, hO2⟩ := loop_step hl hb hx
      obtain ⟨go, yl⟩ := (j F i H' r2 st2 (fun b hb => .inl hb) A2.toF R2 hw).1 x hx2
      refine ⟨go, fun σ' H' => i + 1 ≤ xw.1.length ∧ ∃ r2 env2 st2, Aft r1 H1 r2 H' ∧ Rel K F H' r2 st2 ∧ EnvRel K F H' r2 env2 σ' ∧ loopF xw.2 f (xw.1.drop (i + 1)) env2 st2 = O, fun σ2 H2 hN => ⟨xw.1.length - (i + 1), by omega, hN.1, rfl, hN.2⟩, fun v H3 hy => ?_⟩
      obtain ⟨A3, R3, hv⟩ := yl v H3 hy
      have E3 := E2.aft R2 A3
      rw [← hf] at hfl
      dsimp only at hfl
      split at hfl
      · rename_i env1 he1
        refine ⟨r2, st2, env2, x, env1, R3, E3, hv, he1, fun σ4 E4 _ => ⟨r2, env1, st2, R3, E4, ?_⟩⟩
        rw [hfl]
        cases fl with
        | nx e => exact fun σ5 H5 r5 A5 R5 E5 => ⟨hlt, r5, e, st3, (A2.trans A3).trans A5, R5, E5, hO2⟩
        | ct e => exact fun σ5 H5 r5 A5 R5 E5 => ⟨hlt, r5, e, st3, (A2.trans A3).trans A5, R5, E5, hO2⟩
        | bk e =>
          rw [← hO2] at h
          exact fun σ5 H5 r5 A5 R5 E5 => h σ5 H5 r5 ((A2.trans A3).trans A5) R5 E5
        | rt v =>
          rw [← hO2] at h
          exact fun v5 H5 r5 A5 R5 E5 => h v5 H5 r5 ((A2.trans A3).trans A5) R5 E5
        | rz c v e =>
          rw [← hO2] at h
          exact fun σ5 v5 H5 r5 A5 R5 E5 hv5 => h σ5 v5 H5 r5 ((A2.trans A3).trans A5) R5 E5 hv5
      · cases hfl
    · left
      have hi3 : i = xw.1.length := by omega
      subst hi3
      rw [List.drop_length] at hl
      unfold loopF at hl
      split at hl
      · rename_i hw
        refine ⟨(j F _ H' r2 st2 (fun b hb => .inl hb) A2.toF R2 hw).2 (Nat.le_refl _), ?_⟩
        rw [← hl] at h
        exact h σ' H' r2 A2 R2 E2
      · exact absurd hl.symm hb
theorem while_read {C : Ctx} {c : Ex} {b : Sxs} (h : tIS K F Y (evS C (.wh c b)) D σ H) : tWhile (tIT K F Y (evC C c)) (tIS K F Y (evSs C b)) D σ H := by
  obtain ⟨r, env, st, R, E, h⟩ := h
  simp only [evS] at h
  obtain ⟨hb, hx⟩ := h.good
  generalize hO : whN (evC C c) (evSs C b) wfuel env st = O at h hb hx
  refine ⟨fun m σ' H' => ∃ r2 env2 st2, Aft r H r2 H' ∧ Rel K F H' r2 st2 ∧ EnvRel K F H' r2 env2 σ' ∧ whN (evC C c) (evSs C b) m env2 st2 = O, ⟨wfuel, r, env, st, .refl, R, E, hO⟩, ?_⟩
  rintro m σ' H' ⟨r2, env2, st2, A2, R2, E2, hl⟩
  cases m with
  | zero => exact absurd hl.symm hb
  | succ m =>
    simp only [whN] at hl
    refine ⟨r2, env2, st2, R2, E2, ?_⟩
    cases k1 : evC C c env2 st2 with
    | bad => rw [k1] at hl; exact absurd hl.symm hb
    | exc a v s2 =>
      rw [k1] at hl
      simp only [lift_exc] at hl
      rw [← hl] at h
      exact fun v H3 r3 A3 R3 hv => h σ' v H3 r3 (A2.trans A3) R3 (E2.aft R2 A3) hv
    | ok t st3 =>
      rw [k1] at hl
      simp only [bind_ok, lift_ok] at hl
      intro H3 r3 A3 R3
      cases t with
      | false =>
        rw [if_neg Bool.false_ne_true] at hl ⊢
        rw [← hl] at h
        exact h σ' H3 r3 (A2.trans A3) R3 (E2.aft R2 A3)
      | true =>
        rw [if_pos rfl] at hl ⊢
        refine ⟨fun σ' H' => ∃ r2 env2 st2, Aft r H r2 H' ∧ Rel K F H' r2 st2 ∧ EnvRel K F H' r2 env2 σ' ∧ whN (evC C c) (evSs C b) m env2 st2 = O, fun σ4 H4 q => ⟨m, Nat.lt_succ_self m, q⟩, r3, env2, st3, R3, E2.aft R2 A3, ?_⟩
        cases k2 : evSs C b env2 st3 with
        | bad => rw [k2] at hl; exact absurd hl.symm hb
        | exc a v s2 => rw [k2] at hl; exact absurd hl.symm (hx a v s2)
        | ok fl st4 =>
          rw [k2] at hl
          simp only [bind_ok, lift_ok] at hl
          cases fl with
          | nx e => exact fun σ5 H5 r5 A5 R5 E5 => ⟨r5, e, st4, (A2.trans A3).trans A5, R5, E5, hl⟩
          | ct e => exact fun σ5 H5 r5 A5 R5 E5 => ⟨r5, e, st4, (A2.trans A3).trans A5, R5, E5, hl⟩
          | bk e =>
            dsimp only at hl
            rw [← hl] at h
            exact fun σ5 H5 r5 A5 R5 E5 => h σ5 H5 r5 ((A2.trans A3).trans A5) R5 E5
          | rt v =>
            dsimp only at hl
            rw [← hl] at h
            exact fun v5 H5 r5 A5 R5 E5 => h v5 H5 r5 ((A2.trans A3).trans A5) R5 E5
          | rz c v e =>
            dsimp only at hl
            rw [← hl] at h
            exact fun σ5 v5 H5 r5 A5 R5 E5 hv5 => h σ5 v5 H5 r5 ((A2.trans A3).trans A5) R5 E5 hv5
theorem if_read {C : Ctx} {c : Ex} {a b : Sxs} (h : tIS K F Y (evS C (.iff c a b)) D σ H) : tIfS (tIT K F Y (evC C c)) (tIS K F Y (evSs C a)) (tIS K F Y (evSs C b)) D σ H := by
  obtain ⟨r, env, st, R, E, h⟩ := h
  simp only [evS] at h
  refine ⟨r, env, st, R, E, ?_⟩
  cases k1 : evC C c env st with
  | bad => rw [k1] at h; exact h.elim
  | exc => rw [k1] at h; exact fun v H1 r1 A1 R1 hv => h σ v H1 r1 A1 R1 (E.aft R A1) hv
  | ok t st1 =>
    rw [k1] at h
    simp only [bind_ok, lift_ok] at h
    intro H1 r1 A1 R1
    have h := h.aft A1
    cases t with
    | true => exact ⟨r1, env, st1, R1, E.aft R A1, h⟩
    | false => exact ⟨r1, env, st1, R1, E.aft R A1, h⟩
theorem seq_read {C : Ctx} {s : Sx} {rs : Sxs} (h : tIS K F Y (evSs C (.cons s rs)) D σ H) : tSeq (tIS K F Y (evS C s)) (tIS K F Y (evSs C rs)) D σ H := by
  obtain ⟨r, env, st, R, E, h⟩ := h
  simp only [evSs] at h
  refine ⟨r, env, st, R, E, ?_⟩
  cases k1 : evS C s env st with
  | bad => rw [k1] at h; exact h.elim
  | exc => rw [k1] at h; exact h.elim
  | ok fl st1 =>
    rw [k1] at h
    simp only [bind_ok, lift_ok] at h
    cases fl with
    | nx e => exact fun σ1 H1 r1 A1 R1 E1 => ⟨r1, e, st1, R1, E1, h.aft A1⟩
    | bk e => exact h
    | ct e => exact h
    | rt v => exact h
    | rz c v e => exact h
/-- a value, then a target: what is left -/
theorem asg_read {C : Ctx} {p : Pt} {e : Ex} (h : tIS K F Y (evS C (.asg (.p p) e)) D σ H) : tI K F Y (evE C e) σ H fun v H1 => gI K F p v σ H1 D.nx := by
  obtain ⟨r, env, st, R, E, h⟩ := h
  simp only [evS] at h
  refine ⟨r, env, st, R, E, ?_⟩
  cases k1 : evE C e env st with
  | bad => rw [k1] at h; exact h.elim
  | exc => rw [k1] at h; exact fun v H1 r1 A1 R1 hv => h σ v H1 r1 A1 R1 (E.aft R A1) hv
  | ok x st1 =>
    rw [k1] at h
    simp only [bind_ok, lift_ok] at h
    intro v H1 r1 A1 R1 hv
    have h := h.aft A1
    split at h
    · rename_i env1 he
      exact ⟨r1, st1, env, x, env1, R1, E.aft R A1, hv, he, fun σ' E' _ => h σ' H1 r1 .refl R1 E'⟩
    · exact h.elim
theorem gI_name {i : Nat} {v : V} {Q : St → Hp → Prop} (h : gI K F (.n i) v σ H Q) : gName i v σ H Q := by
  obtain ⟨r, st, env, q, env', R, E, hv, e1, h⟩ := h
  cases e1
  exact h _ (E.set i hv) fun vs hvs => wipe_set_in σ _ vs i (hvs i (by simp [Pt.slots]))
end
end L2.Iv

/-! IvJ2: what the text of a statement must be. Own work. -/
namespace L2.Iv
open PySem PySem.Spec PyProof.Rows
section
variable {g : Sg} {N : List Str} {sc so : Scope} {s : Stmt}
theorem chkS_asg {p : Pt} {e : Ex} (h : chkS g N sc so (.asg (.p p) e) s = true) :
    (∃ i x px ee pos, p = .n i ∧ s = .Assign [.Name x px] ee pos ∧ ((!g.hot || !isLC ee) && chkP N so (.n i) (.Name x px) && chkE g N sc e ee) = true) ∨
    ∃ ts k pt ee pos, s = .Assign [.Tuple ts k pt] ee pos ∧ (!g.hot && (chkP N so p (.Tuple ts k pt) && !isLC ee && chkE g N sc e ee && tupOk sc p ts ee)) = true := by
  unfold chkS at h
  split at h <;> first | (cases h; done) | (rename_i z; cases z; done) | skip
  · rename_i z
    cases z
    exact .inl ⟨_, _, _, _, _, rfl, rfl, h⟩
  · rename_i z
    cases z
    exact .inr ⟨_, _, _, _, _, rfl, h⟩
theorem chkS_expr {e : Ex} (h : chkS g N sc so (.expr e) s = true) : ∃ ee pos, s = .Expr ee pos ∧ (!isLC ee && chkE g N sc e ee) = true := by
  unfold chkS at h
  split at h <;> first | (cases h; done) | (rename_i z; cases z; done) | skip
  rename_i z
  cases z
  exact ⟨_, _, rfl, h⟩
theorem chkS_sub {o i e : Ex} (h : chkS g N sc so (.asg (.sub o i) e) s = true) : ∃ eo ei tp ee pos, s = .Assign [.Subscript eo ei tp] ee pos ∧ (okS ei && !isLC ee && chkE g N sc o eo && chkE g N sc i ei && chkE g N sc e ee) = true := by
  unfold chkS at h
  split at h <;> first | (cases h; done) | (rename_i z; cases z; done) | skip
  rename_i z
  cases z
  exact ⟨_, _, _, _, _, rfl, h⟩
theorem chkS_aug {i : Nat} {o : Bop} {e : Ex} (h : chkS g N sc so (.aug i o e) s = true) : ∃ x px op ee pos, s = .AugAssign (.Name x px) op ee pos ∧ (decide (op = opB o) && chkP N so (.n i) (.Name x px) && chkE g N sc e ee) = true := by
  unfold chkS at h
  split at h <;> first | (cases h; done) | (rename_i z; cases z; done) | skip
  rename_i z
  cases z
  exact ⟨_, _, _, _, _, rfl, h⟩
theorem chkS_augS {a i e : Ex} {o : Bop} (h : chkS g N sc so (.augS a i o e) s = true) : ∃ eo ei tp op ee pos, s = .AugAssign (.Subscript eo ei tp) op ee pos ∧ (decide (op = opB o) && okS ei && chkE g N sc a eo && chkE g N sc i ei && chkE g N sc e ee) = true := by
  unfold chkS at h
  split at h <;> first | (cases h; done) | (rename_i z; cases z; done) | skip
  rename_i z
  cases z
  exact ⟨_, _, _, _, _, _, rfl, h⟩
theorem chkS_iff {c : Ex} {a b : Sxs} (h : chkS g N sc so (.iff c a b) s = true) : ∃ ec as bs pos, s = .If ec as bs pos ∧ (chkE g N sc c ec && chkSs g N sc so a as && chkSs g N sc so b bs) = true := by
  unfold chkS at h
  split at h <;> first | (cases h; done) | (rename_i z; cases z; done) | skip
  rename_i z
  cases z
  exact ⟨_, _, _, _, rfl, h⟩
theorem chkS_fr {p : Pt} {it : Ix} {b : Sxs} (h : chkS g N sc so (.fr p it b) s = true) : ∃ tg iter bs pos, s = .For tg iter bs [] pos ∧ (!g.hot && (chkI g N sc it iter && okS iter && (!needsT it || isTgT tg) && chkP N so p tg && chkSs g N sc so b bs)) = true := by
  unfold chkS at h
  split at h <;> first | (cases h; done) | (rename_i z; cases z; done) | skip
  rename_i z
  cases z
  exact ⟨_, _, _, _, rfl, h⟩
theorem chkS_wh {c : Ex} {b : Sxs} (h : chkS g N sc so (.wh c b) s = true) : ∃ ec bs pos, s = .While ec bs [] pos ∧ (!g.hot && (chkE g N sc c ec && chkSs g N sc so b bs)) = true := by
  unfold chkS at h
  split at h <;> first | (cases h; done) | (rename_i z; cases z; done) | skip
  rename_i z
  cases z
  exact ⟨_, _, _, rfl, h⟩
theorem chkS_ret {e : Ex} (h : chkS g N sc so (.ret e) s = true) : ∃ ee pos, s = .Return (some ee) pos ∧ chkE g N sc e ee = true := by
  unfold chkS at h
  split at h <;> first | (cases h; done) | (rename_i z; cases z; done) | skip
  rename_i z
  cases z
  exact ⟨_, _, rfl, h⟩
theorem chkS_retn  (h : chkS g N sc so (.retn) s = true) : ∃ pos, s = .Return none pos := by
  unfold chkS at h
  split at h <;> first | (cases h; done) | (rename_i z; cases z; done) | skip
  rename_i z
  cases z
  exact ⟨_, rfl⟩
theorem chkS_brk  (h : chkS g N sc so (.brk) s = true) : ∃ pos, s = .Break pos := by
  unfold chkS at h
  split at h <;> first | (cases h; done) | (rename_i z; cases z; done) | skip
  rename_i z
  cases z
  exact ⟨_, rfl⟩
theorem chkS_cont  (h : chkS g N sc so (.cont) s = true) : ∃ pos, s = .Continue pos := by
  unfold chkS at h
  split at h <;> first | (cases h; done) | (rename_i z; cases z; done) | skip
  rename_i z
  cases z
  exact ⟨_, rfl⟩
theorem chkS_pass  (h : chkS g N sc so (.pass) s = true) : ∃ pos, s = .Pass pos := by
  unfold chkS at h
  split at h <;> first | (cases h; done) | (rename_i z; cases z; done) | skip
  rename_i z
  cases z
  exact ⟨_, rfl⟩
theorem chkS_rs {c : Str} {e : Ex} (h : chkS g N sc so (.rs c e) s = true) : ∃ x px ee p2 p3, s = .Raise (some (.Call (.Name x px) [ee] [] p2)) none p3 ∧ (!g.hot && (decide (x = c) && glb sc x && (g.ecs.lookup c).isSome && chkE g N sc e ee)) = true := by
  unfold chkS at h
  split at h <;> first | (cases h; done) | (rename_i z; cases z; done) | skip
  rename_i z
  cases z
  exact ⟨_, _, _, _, _, rfl, h⟩
theorem chkS_tr {b : Sxs} {hs : Hds} (h : chkS g N sc so (.tr b hs) s = true) : ∃ body hds pos, s = .Try body hds [] [] pos ∧ (!g.hot && (chkSs g N sc so b body && !hds.isEmpty && chkH g N sc so hs hds)) = true := by
  unfold chkS at h
  split at h <;> first | (cases h; done) | (rename_i z; cases z; done) | skip
  rename_i z
  cases z
  exact ⟨_, _, _, rfl, h⟩
end
end L2.Iv

/-! IvK: statements do what the language says: the induction itself. Own work. -/
namespace L2.Iv
open PySem PySem.Spec PyProof.Rows

section
variable {X : Cx} {g : Sg} {n : Nat} {N : List Str} {sc so : Scope} {F : List Addr}
/-- a op= b of the language -/
def rAug (K : PySem.W.Frag) (F : List Addr) (o : Bop) : TIp := fun x y H Q => ∃ r st p q z, Rel K F H r st ∧ Rep K F H r x p ∧ Rep K F H r y q ∧ augV o p q = some z ∧ ∀ v, Rep K F H r v z → Q v H
theorem ip_aug (o : Bop) : PIp X (opB o) (rAug X.K F o) := by
  intro pins s σ H x y v u Q I rx ry h
  obtain ⟨r, st, p, q, z, R, hp, hq, e, k⟩ := h
  cases hp <;> cases hq <;> first | (cases e; done) | skip
  · cases o <;> first | (cases e; done) | skip
    · cases e
      exact iop_add pins s σ H _ _ v u Q I rx ry ⟨_, _, rfl, rfl, k _ (.int _)⟩
    · cases e
      exact iop_sub pins s σ H _ _ v u Q I rx ry ⟨_, _, rfl, rfl, k _ (.int _)⟩
  · cases o <;> first | (cases e; done) | skip
    rename_i a b
    simp only [augV] at e
    split at e
    · cases e
      exact iop_add_str pins s σ H _ _ v u Q I rx ry ⟨_, _, rfl, rfl, by assumption, k _ (.str _)⟩
    · cases e
/-- o[i] of a list that is written -/
def rLoc (K : PySem.W.Frag) (F : List Addr) : V → V → Hp → VK → Prop := fun x y H Q => ∃ r st p q z, Rel K F H r st ∧ Rep K F H r x p ∧ Rep K F H r y q ∧ locV st p q = some z ∧ ∀ v, Rep K F H r v z → Q v H
theorem get_loc : PGet X (rLoc X.K F) := by
  intro pins s σ H x y v u Q I rx ry h
  obtain ⟨r, st, p, q, z, R, hp, hq, e, k⟩ := h
  cases hp <;> cases hq <;> first | (cases e; done) | skip
  rename_i a l hl i
  simp only [locV] at e
  split at e
  · rename_i xs hx
    obtain ⟨ys, vs, e1, e2, e3⟩ := R.cell hl
    rw [hx] at e1; cases e1
    cases rx
    obtain ⟨t, rfl⟩ := ry
    obtain ⟨its, rr, pl, hz⟩ := I.list (SqL.of e2)
    obtain ⟨j, h1, h2, h3, h4, h5⟩ := atI_get e
    obtain ⟨w, ew, rw'⟩ := e3.get2 h2
    obtain ⟨w2, ew2, rw2⟩ := rr.get ew
    have hl1 := rr.length
    have hl2 := e3.length
    have hn := line63
    have fin : EP X pins σ Q w2 s := ⟨w, H, I, rw2, k w rw'⟩
    by_cases h0 : 0 ≤ i
    · have hj : i.toNat = j := by
        rw [seqIndex_of h0 h5] at h1
        exact Option.some.inj h1
      exact wpAny_getItem_list pl.isList h0 (by omega) (by rw [hj]; simpa using ew2) fin
    · have hj : (i + (its.toArray.size : Int)).toNat = j := by
        rw [seqIndex_neg (by omega) h4] at h1
        rw [List.size_toArray, ← hl1, hl2]
        exact Option.some.inj h1
      exact wpAny_getItem_list_neg pl.isList (by omega) (by rw [List.size_toArray] <;> omega) (by omega) (by rw [hj]; simpa using ew2) fin
  · cases e
/-- o[i] = v of the language -/
def rSto (K : PySem.W.Frag) (F : List Addr) : TSet := fun o i v H Q => ∃ r st p q z st2, Rel K F H r st ∧ Rep K F H r o p ∧ Rep K F H r i q ∧ Rep K F H r v z ∧ setV st p q z = some st2 ∧ ∀ H2, Aft r H r H2 → Rel K F H2 r st2 → Q H2
theorem sto_loc : PSet X (rSto X.K F) := by
  intro pins s σ H o i v ov iv u Q I ro ri rv h
  obtain ⟨r, st, p, q, z, st2, R, hp, hq, hz, e, k⟩ := h
  cases hp <;> cases hq <;> first | (cases e; done) | skip
  rename_i a l hl i
  simp only [setV] at e
  split at e
  · rename_i xs hx
    obtain ⟨ys, vs, e1, e2, e3⟩ := R.cell hl
    rw [hx] at e1; cases e1
    cases hj : ixN xs.length i with
    | none => rw [hj] at e; cases e
    | some j =>
      rw [hj] at e
      cases e
      refine set_list pins s σ H _ _ v ov iv u Q I ro ri rv ⟨a, vs, i, j, rfl, rfl, e2, by rw [e3.length]; exact hj, ?_⟩
      exact k _ (Aft.write (List.mem_of_getElem? hl)) (R.write hl (e3.set hz j))
  · cases e
end

section
variable {X : Cx} {g : Sg} {n : Nat} {N : List Str} {sc so : Scope} {W : WX} {Y : SW} {F : List Addr}
theorem Std.nN (S : Std X g n N sc so W) : X.N.Nodup := by rw [S.eN]; exact S.nd
theorem Std.at (S : Std X g n N sc so W) {i : Nat} {x : Str} (h : chkP N so (.n i) (.Name x ⟨0, 0, 0, 0⟩) = true) : X.N[i]? = some x ∧ Loc X.env.scope x ∧ (X.fn x = true ∨ X.env.scope.names.lookup x = some .local) := by
  have h : (decide (N[i]? = some x) && loc so x) = true := h
  simp only [Bool.and_eq_true, decide_eq_true_eq] at h
  obtain ⟨q1, q2⟩ := S.so x (loc_of h.2)
  rw [S.eN, S.eS]
  exact ⟨h.1, q1, q2⟩

theorem aug_read {K : PySem.W.Frag} {C : Ctx} {i : Nat} {o : Bop} {e : Ex} {σ : St} {H : Hp} {D : Ends} (h : tIS K F Y (evS C (.aug i o e)) D σ H) : tAug i (tI K F Y (evE C e)) (rAug K F o) D σ H := by
  obtain ⟨r, env, st, R, E, h⟩ := h
  simp only [evS] at h
  split at h
  · rename_i v hv
    obtain ⟨x, hx, hr⟩ := E.get i v hv
    refine ⟨x, hx, r, env, st, R, E, ?_⟩
    cases k1 : evE C e env st with
    | bad => rw [k1] at h; exact h.elim
    | exc => rw [k1] at h; exact fun v H1 r1 A1 R1 hv => h σ v H1 r1 A1 R1 (E.aft R A1) hv
    | ok p st1 =>
      rw [k1] at h
      simp only [lift_ok] at h
      intro y H1 r1 A1 R1 hy
      have h := h.aft A1
      split at h
      · rename_i z hz
        exact ⟨r1, st1, v, p, z, R1, hr.aft R A1, hy, hz, fun u hu => h _ H1 r1 .refl R1 ((E.aft R A1).set i hu)⟩
      · exact h.elim
  · exact h.elim
theorem augS_read {K : PySem.W.Frag} {C : Ctx} {a i : Ex} {o : Bop} {e : Ex} {σ : St} {H : Hp} {D : Ends} (h : tIS K F Y (evS C (.augS a i o e)) D σ H) :
    tAugS (tI K F Y (evE C a)) (tI K F Y (evE C i)) (tI K F Y (evE C e)) (rLoc K F) (rAug K F o) (rSto K F) D σ H := by
  obtain ⟨r, env, st, R, E, h⟩ := h
  simp only [evS] at h
  refine ⟨r, env, st, R, E, ?_⟩
  cases k1 : evE C a env st with
  | bad => rw [k1] at h; exact h.elim
  | exc => rw [k1] at h; exact fun v H1 r1 A1 R1 hv => h σ v H1 r1 A1 R1 (E.aft R A1) hv
  | ok p st1 =>
    rw [k1] at h
    simp only [bind_ok, lift_ok] at h
    intro x H1 r1 A1 R1 hx
    have h := h.aft A1
    have E1 := E.aft R A1
    refine ⟨r1, env, st1, R1, E1, ?_⟩
    cases k2 : evE C i env st1 with
    | bad => rw [k2] at h; exact h.elim
    | exc => rw [k2] at h; exact fun v H2 r2 A2 R2 hv => h σ v H2 r2 A2 R2 (E1.aft R1 A2) hv
    | ok q st2 =>
      rw [k2] at h
      simp only [bind_ok, lift_ok] at h
      intro y H2 r2 A2 R2 hy
      have h := h.aft A2
      have E2 := E1.aft R1 A2
      have hx2 := hx.aft R1 A2
      split at h
      · rename_i v hv
        refine ⟨r2, st2, p, q, v, R2, hx2, hy, hv, fun old ho => ⟨r2, env, st2, R2, E2, ?_⟩⟩
        cases k3 : evE C e env st2 with
        | bad => rw [k3] at h; exact h.elim
        | exc => rw [k3] at h; exact fun v H3 r3 A3 R3 hv => h σ v H3 r3 A3 R3 (E2.aft R2 A3) hv
        | ok z st3 =>
          rw [k3] at h
          simp only [bind_ok, lift_ok] at h
          intro w H3 r3 A3 R3 hw
          have h := h.aft A3
          split at h
          · rename_i u hu
            refine ⟨r3, st3, v, z, u, R3, ho.aft R2 A3, hw, hu, fun nw hn => ?_⟩
            split at h
            · rename_i st4 h4
              exact ⟨r3, st3, p, q, u, st4, R3, hx2.aft R2 A3, hy.aft R2 A3, hn, h4, fun H4 A4 R4 => h σ H4 r3 A4 R4 ((E2.aft R2 A3).aft R3 A4)⟩
            · exact h.elim
          · exact h.elim
      · exact h.elim
theorem sub_read {K : PySem.W.Frag} {C : Ctx} {a i : Ex} {e : Ex} {σ : St} {H : Hp} {D : Ends} (h : tIS K F Y (evS C (.asg (.sub a i) e)) D σ H) :
    tAsg (tI K F Y (evE C e)) (gSub (tI K F Y (evE C a)) (tI K F Y (evE C i)) (rSto K F)) D σ H := by
  obtain ⟨r, env, st, R, E, h⟩ := h
  simp only [evS] at h
  refine ⟨r, env, st, R, E, ?_⟩
  cases k1 : evE C e env st with
  | bad => rw [k1] at h; exact h.elim
  | exc => rw [k1] at h; exact fun v H1 r1 A1 R1 hv => h σ v H1 r1 A1 R1 (E.aft R A1) hv
  | ok p st1 =>
    rw [k1] at h
    simp only [bind_ok, lift_ok] at h
    intro x H1 r1 A1 R1 hx
    have h := h.aft A1
    have E1 := E.aft R A1
    refine ⟨r1, env, st1, R1, E1, ?_⟩
    cases k2 : evE C a env st1 with
    | bad => rw [k2] at h; exact h.elim
    | exc => rw [k2] at h; exact fun v H2 r2 A2 R2 hv => h σ v H2 r2 A2 R2 (E1.aft R1 A2) hv
    | ok q st2 =>
      rw [k2] at h
      simp only [bind_ok, lift_ok] at h
      intro y H2 r2 A2 R2 hy
      have h := h.aft A2
      have E2 := E1.aft R1 A2
      have hx2 := hx.aft R1 A2
      refine ⟨r2, env, st2, R2, E2, ?_⟩
      cases k3 : evE C i env st2 with
      | bad => rw [k3] at h; exact h.elim
      | exc => rw [k3] at h; exact fun v H3 r3 A3 R3 hv => h σ v H3 r3 A3 R3 (E2.aft R2 A3) hv
      | ok z st3 =>
        rw [k3] at h
        simp only [bind_ok, lift_ok] at h
        intro w H3 r3 A3 R3 hw
        have h := h.aft A3
        split at h
        · rename_i st4 h4
          exact ⟨r3, st3, q, z, p, st4, R3, hy.aft R2 A3, hw, hx2.aft R2 A3, h4, fun H4 A4 R4 => h σ H4 r3 A4 R4 ((E2.aft R2 A3).aft R3 A4)⟩
        · exact h.elim
theorem par_read {K : PySem.W.Frag} {C : Ctx} {p : Pt} {es : Exs} {σ : St} {H : Hp} {D : Ends} (h : tIS K F Y (evS C (.asg (.p p) (.tup es))) D σ H) :
    tIA K F Y (evEs C es) σ H fun vs H1 => ∃ r1 st1 env ps env1, Rel K F H1 r1 st1 ∧ EnvRel K F H1 r1 env σ ∧ Reps K F H1 r1 vs ps ∧ asgP p (.tup ps) env = some env1 ∧ ∀ σ', EnvRel K F H1 r1 env1 σ' → D.nx σ' H1 := by
  obtain ⟨r, env, st, R, E, h⟩ := h
  simp only [evS, evE] at h
  refine ⟨r, env, st, R, E, ?_⟩
  cases k1 : evEs C es env st with
  | bad => rw [k1] at h; exact h.elim
  | exc => rw [k1] at h; exact fun v H1 r1 A1 R1 hv => h σ v H1 r1 A1 R1 (E.aft R A1) hv
  | ok ps st1 =>
    rw [k1] at h
    simp only [bind_ok, lift_ok] at h
    intro vs H1 r1 A1 R1 hv
    have h := h.aft A1
    split at h
    · simp only [bind_ok, lift_ok] at h
      split at h
      · rename_i env1 he
        exact ⟨r1, st1, env, ps, env1, R1, E.aft R A1, hv, he, fun σ' E' => h σ' H1 r1 .refl R1 E'⟩
      · exact h.elim
    · exact h.elim
theorem ret_read {K : PySem.W.Frag} {C : Ctx} {e : Ex} {σ : St} {H : Hp} {D : Ends} (h : tIS K F Y (evS C (.ret e)) D σ H) : tI K F Y (evE C e) σ H D.rt := by
  have h := tIS.step (o := evE C e) (f := fun x env st1 => .ok (.rt x) st1) h
  obtain ⟨r, env, st, R, E, h⟩ := h
  refine ⟨r, env, st, R, E, ?_⟩
  cases k1 : evE C e env st with
  | bad => rw [k1] at h; exact h
  | exc => rw [k1] at h; exact h
  | ok p st1 =>
    rw [k1] at h
    intro v H1 r1 A1 R1 hv
    obtain ⟨r2, env2, st2, p2, R2, E2, hv2, h⟩ := h v H1 r1 A1 R1 hv
    exact h v H1 r2 .refl R2 hv2
theorem expr_read {K : PySem.W.Frag} {C : Ctx} {e : Ex} {σ : St} {H : Hp} {D : Ends} (h : tIS K F Y (evS C (.expr e)) D σ H) : tI K F Y (evE C e) σ H fun _ H1 => D.nx σ H1 := by
  have h := tIS.step (o := evE C e) (f := fun x env st1 => .ok (.nx env) st1) h
  obtain ⟨r, env, st, R, E, h⟩ := h
  refine ⟨r, env, st, R, E, ?_⟩
  cases k1 : evE C e env st with
  | bad => rw [k1] at h; exact h
  | exc => rw [k1] at h; exact h
  | ok p st1 =>
    rw [k1] at h
    intro v H1 r1 A1 R1 hv
    obtain ⟨r2, env2, st2, p2, R2, E2, hv2, h⟩ := h v H1 r1 A1 R1 hv
    exact h σ H1 r2 .refl R2 E2
theorem sole_eq {t v : Expr} {l : Nat} {env : PySem.Env} : swapsWithSole [t] v l env = swapsWith v (some t) l env := rfl
theorem par_sw {ts vs : List Expr} {sc : Scope} {env : PySem.Env} {k k2 : Nat} {p p2 : Pos} {ns : List Str} (hs : env.scope = sc) (hk : sc.kind = .function) (h : swB sc ts vs = 1) (e : swNames sc ts = ns) :
    swappedStores [.Tuple ts k p] (.Tuple vs k2 p2) env = pure (some ns) := by
  rw [← e]; exact (sw_gen hs hk ts vs k k2 p p2).2 h

/-- raise c(e) -/
theorem rs_read {P : Program} {w : World} {K : PySem.W.Frag} {mg : Str → Option Value} {base : Heap} {C : Ctx} {c : Str} {anc : List Str} {D0 : Addr} {e : Ex} {σ : St} {H : Hp} {D : Ends} (T : EcF P w K mg base g c anc D0)
    (h : tIS K F (sw mg W) (evS C (.rs c e)) D σ H) : tMkO D0 (spInit K) [] (tCons (tI K F (sw mg W) (evE C e)) tNil) σ H fun cls d H' => W cls d σ H' := by
  obtain ⟨r, env, st, R, E, h⟩ := h
  simp only [evS] at h
  refine ⟨r, env, st, R, E, ?_⟩
  cases k1 : evE C e env st with
  | bad => rw [k1] at h; exact h.elim
  | exc => rw [k1] at h; exact fun v H1 r1 A1 R1 hv => h σ v H1 r1 A1 R1 (E.aft R A1) hv
  | ok p st1 =>
    rw [k1] at h
    simp only [lift_ok] at h
    split at h
    · intro v H1 r1 A1 R1 hv
      have h := h σ v H1 r1 A1 R1 (E.aft R A1) hv
      refine ⟨by show 1 ≤ 1000; decide, fun a ha => ⟨a, D0, v, rfl, T.ox, T.kit.nv, upd_same, fun dx hn ne => ⟨rfl, dx, [("value", v)], upd_same, by rw [upd_ne ne, upd_same], ?_, ?_⟩⟩⟩
      · rw [upd_ne ne] at hn
        exact hn
      · rw [upd_ne ne] at hn
        have q := h D0 dx T.mgc hn
        have eH : upd (del (upd (upd (upd H1 a (exo a D0 none)) dx (exd dx [("value", v)])) a (exo a D0 (some dx))) a) dx (.xd [("value", v)]) = upd H1 dx (.xd [("value", v)]) := by
          funext b
          by_cases hb : b = dx
          · rw [hb, upd_same, upd_same]
          · rw [upd_ne hb, upd_ne hb]
            by_cases hba : b = a
            · rw [hba, del_same, ha]
            · rw [del_ne hba, upd_ne hba, upd_ne hb, upd_ne hba]
        rw [eH]
        exact q
    · exact h.elim
/-- the clauses of a try as the rule wants them -/
noncomputable def clOfH (K : PySem.W.Frag) (mg : Str → Option Value) (F : List Addr) (C : Ctx) (g : Sg) : Hds → List (Value × Option Nat × TS)
  | .nil => []
  | .cons x i b r => (match mg x with
    | some u => u
    | none => .type "ValueError", i, tIS K F (sw mg noW) (evSs C b)) :: clOfH K mg F C g r
theorem exn_val {mg : Str → Option Value} {x : Str} {cv : V} {u : Value} (h : ExN mg g x cv u) : (match mg x with
    | some u => u
    | none => Value.type "ValueError") = u := by
  cases h with
  | own h1 h2 => rw [h2]
  | ve h1 h2 => rw [h2]
def clN (mg : Str → Option Value) (g : Sg) : Hds → Prop
  | .nil => True
  | .cons x _ _ r => (∃ cv u, ExN mg g x cv u) ∧ clN mg g r
theorem EnvRel.slotIn {K : PySem.W.Frag} {H : Hp} {r : List Addr} {env : Env} {σ : St} {C : Ctx} {i : Option Nat} {c : Str} {p : PV} {a : Addr} (E : EnvRel K F H r env σ) (h : Rep K F H r (.ref a) (.exn c (C.cl c) p)) : EnvRel K F H r (inH C i c p env) (slotIn i a σ) := by
  cases i with
  | none => exact E
  | some i => exact E.set i h
theorem EnvRel.slotOut {K : PySem.W.Frag} {H : Hp} {r : List Addr} {env : Env} {σ : St} {i : Option Nat} (E : EnvRel K F H r env σ) : EnvRel K F H r (outH i env) (slotOut i σ) := by
  cases i with
  | none => exact E
  | some i => exact E.unset i
/-- an error meets the clauses -/
theorem hds_read {P : Program} {w : World} {K : PySem.W.Frag} {mg : Str → Option Value} {base : Heap} {c : Str} {p : PV} {D : Ends} (hec : ∀ c anc, g.ecs.lookup c = some anc → ∃ C, EcF P w K mg base g c anc C) :
    ∀ (hs : Hds), clN mg g hs → ∀ {σ : St} {H : Hp} {r : List Addr} {env : Env} {st : Store} {v : V}, Rel K F H r st → EnvRel K F H r env σ → Rep K F H r v p → PostS K F (sw mg W) r H D (evH (g.ctx (clOf mg) n) hs c p env st) →
      sw mg (wTry K W D (clOfH K mg F (g.ctx (clOf mg) n) g hs)) σ c v H
  | .nil, _, σ, H, r, env, st, v, R, E, hv, h => h σ v H r .refl R E hv
  | .cons x i b rest, nm, σ, H, r, env, st, v, R, E, hv, h => by
    obtain ⟨⟨cv, u, ex⟩, nm⟩ := nm
    intro Ca dd hm hd
    simp only [evH] at h
    have hsub : (g.ctx (clOf mg) n).sub c x = (g.ecs.lookup c).map fun l => decide (x ∈ l) := rfl
    cases ha : g.ecs.lookup c with
    | none => rw [hsub, ha] at h; exact h.elim
    | some anc =>
      rw [hsub, ha] at h
      obtain ⟨C1, T⟩ := hec c anc ha
      have e1 : Ca = C1 := by
        have := T.mgc
        rw [hm] at this
        cases this
        rfl
      subst e1
      refine ⟨decide (x ∈ anc), ?_, fun hb => ?_, fun hb => ?_⟩
      · rw [exn_val ex]
        exact (T.isa x cv u ex).2
      · simp only [Option.map_some, hb] at h
        exact hds_read hec rest nm R E hv h Ca dd hm hd
      · simp only [Option.map_some, hb] at h
        refine ⟨Ca, dd, rfl, rfl, fun a hn => ?_⟩
        have nda : dd ≠ a := fun z => by rw [← z, upd_same] at hn; cases hn
        have A1 : Aft r H r (upd H dd (.xd [("value", v)])) := Aft.new hd
        have R1 := R.new (o := .xd [("value", v)]) hd
        have A2 : Aft r (upd H dd (.xd [("value", v)])) r (upd (upd H dd (.xd [("value", v)])) a (.ext (excP a Ca dd))) := Aft.new hn
        have R2 := R1.new (o := .ext (excP a Ca dd)) hn
        have hv2 := (hv.aft R A1).aft R1 A2
        have E2 := (E.aft R A1).aft R1 A2
        have hx : Rep K F (upd (upd H dd (.xd [("value", v)])) a (.ext (excP a Ca dd))) r (.ref a) (.exn c ((g.ctx (clOf mg) n).cl c) p) := by
          have ec : (g.ctx (clOf mg) n).cl c = Ca := clOf_eq hm
          rw [ec]
          exact .exn upd_same (by rw [upd_ne nda, upd_same]) hv2
        have h := h.aft (A1.trans A2)
        refine ⟨r, inH (g.ctx (clOf mg) n) i c p env, st, R2, E2.slotIn hx, ?_⟩
        cases k1 : evSs (g.ctx (clOf mg) n) b (inH (g.ctx (clOf mg) n) i c p env) st with
        | bad => rw [k1] at h; exact h.elim
        | exc => rw [k1] at h; exact h.elim
        | ok fl st1 =>
          rw [k1] at h
          simp only [bind_ok] at h
          cases fl with
          | nx e => exact fun σ' H' r' A R E => h _ H' r' A R E.slotOut
          | bk e => exact fun σ' H' r' A R E => h _ H' r' A R E.slotOut
          | ct e => exact fun σ' H' r' A R E => h _ H' r' A R E.slotOut
          | rt q => exact h
          | rz => exact h.elim
theorem try_read {P : Program} {w : World} {K : PySem.W.Frag} {mg : Str → Option Value} {base : Heap} {b : Sxs} {hs : Hds} {σ : St} {H : Hp} {D : Ends} (hec : ∀ c anc, g.ecs.lookup c = some anc → ∃ C, EcF P w K mg base g c anc C) (nm : clN mg g hs)
    (h : tIS K F (sw mg W) (evS (g.ctx (clOf mg) n) (.tr b hs)) D σ H) : tIS K F (sw mg (wTry K W D (clOfH K mg F (g.ctx (clOf mg) n) g hs))) (evSs (g.ctx (clOf mg) n) b) D σ H := by
  obtain ⟨r, env, st, R, E, h⟩ := h
  simp only [evS] at h
  refine ⟨r, env, st, R, E, ?_⟩
  cases k1 : evSs (g.ctx (clOf mg) n) b env st with
  | bad => rw [k1] at h; exact h.elim
  | exc => rw [k1] at h; exact h.elim
  | ok fl st1 =>
    rw [k1] at h
    simp only [bind_ok] at h
    cases fl with
    | nx e => exact h
    | bk e => exact h
    | ct e => exact h
    | rt q => exact h
    | rz c p e => exact fun σ' v H' r' A R' E' hv => hds_read hec hs nm R' E' hv (h.aft A)
/-- the frame of a def's own body -/
structure TopX (X : Cx) : Prop where
  stk : X.stack = X.env :: X.outer
  fr : X.env.frame = some X.env.locals
  noex : X.ex = []
  pass : PassesOwn (model X.prog X.w) X.A X.env X.xe
mutual
theorem snd_S : ∀ (sx : Sx) {g : Sg} {X : Cx} {N : List Str} {sc so : Scope} {W : WX} (S : Std X g n N sc so W) (Z : TopX X) (hk : sc.kind = .function) {s : Stmt}, chkS g N sc so sx s = true → ∀ F, PS X s (tIS X.K F (sw X.mg W) (evS (g.ctx (clOf X.mg) n) sx))
  | .expr e, g, X, N, sc, so, W, S, Z, hk, s, h, F => by
    have h9 := chkS_expr h
    clear h
    obtain ⟨ee, pos, rfl, h⟩ := h9
    simp only [Bool.and_eq_true, Bool.not_eq_true'] at h
    exact PS.imp (ps_expr (snd_E e S h.2 F).1 (okS_sw (chk_okS h.2) h.1 _ _ _)) fun D σ H q => expr_read q
  | .asg (.p p) e, g, X, N, sc, so, W, S, Z, hk, s, h, F => by
    have h9 := chkS_asg h
    clear h
    rcases h9 with ⟨i, x, px, ee, pos, rfl, rfl, h⟩ | ⟨ts, k, pt, ee, pos, rfl, h⟩
    · simp only [Bool.and_eq_true, Bool.or_eq_true, Bool.not_eq_true'] at h
      obtain ⟨⟨h0, h1⟩, h2⟩ := h
      obtain ⟨hi, hl, hf⟩ := S.at (i := i) (x := x) h1
      have hN := S.nN
      have plain : ∀ (hs : swapsWith ee (some (.Name x px)) pos.line X.env = pure false), PS X (.Assign [.Name x px] ee pos) (tIS X.K F (sw X.mg W) (evS (g.ctx (clOf X.mg) n) (.asg (.p (.n i)) e))) := fun hs =>
        PS.imp (ps_set (pos' := px) hN hi hl (snd_E e S h2 F).1 hs hf) fun D σ H q => by
          obtain ⟨r, env, st, R, E, q⟩ := asg_read q
          refine ⟨r, env, st, R, E, ?_⟩
          cases k1 : evE (g.ctx (clOf X.mg) n) e env st with
          | bad => rw [k1] at q; exact q
          | exc => rw [k1] at q; exact q
          | ok p st1 =>
            rw [k1] at q
            exact fun v H1 r1 A1 R1 hv => gI_name (q v H1 r1 A1 R1 hv)
      by_cases hlc : isLC ee = true
      · have hh : g.hot = false := h0.elim id fun z => by rw [hlc] at z; cases z
        cases ee <;> first | (cases hlc; done) | skip
        rename_i elt gens scope lpos
        cases hsw : swLC sc scope x px lpos with
        | false => exact plain (by rw [sw_lc S.eS hk, hsw])
        | true =>
          have hsl : X.env.scope.names.lookup x = some .local := by
            rw [S.eS]
            unfold swLC at hsw
            simp only [Bool.and_eq_true] at hsw
            exact lk_local hsw.1.1
          have hsw2 : swapsWith (.ListComp elt gens scope lpos) (some (.Name x px)) pos.line X.env = pure true := by rw [sw_lc S.eS hk, hsw]
          cases e <;> first | (cases h2; done) | skip
          · rename_i fr own p it cs el
            match gens, h2 with
            | [⟨tg, iter, ifs, 0⟩], h =>
              obtain ⟨hh, h⟩ := cool_of h
              have h : (blkC N sc scope (ownL N own) && chkI g N sc it iter && okS iter && (!needsT it || isTgT tg) && decide (∀ i ∈ p.slots, i ∈ own) && chkP N scope p tg && decide (ifs.length ≤ 1) && chkEs g N (relS scope sc) cs ifs && chkE g N (relS scope sc) el elt) = true := h
              simp only [Bool.and_eq_true, decide_eq_true_eq] at h
              obtain ⟨⟨⟨⟨⟨⟨⟨⟨hb, hi2⟩, ho⟩, ht⟩, hown⟩, hp⟩, hl2⟩, hcs⟩, he⟩ := h
              have own2 : (ownL N own).map (·.2) = own := by simp [ownL, List.map_map, Function.comp_def]
              refine PS.imp (ps_setLc (own := ownL N own) (g := gX X.K p) (tt := tTX X.K (evTests (g.ctx (clOf X.mg) n) cs)) (te := tX X.K (evE (g.ctx (clOf X.mg) n) el)) (S.cal.calm hh) hN hi hsl hsw2 (snd_I it S hi2 (fun z => by rw [z] at ht; simpa using ht) F) (blkOk_by (by rw [S.eN, S.eS]; exact hb))
                (fun s H C cl fp => pg_any fun F => (pg_I (S.blk) hh F p tg hp).1) (fun s H C cl fp => (snd_Es cs (S.blk) hcs).ts hl2) (fun s H C cl fp => pe_any fun F => (snd_E el (S.blk) he F).1) (fun x => okS_set ho _ _)) fun D σ H q => ?_
              rw [own2]
              refine lc_read (fr := fr) (Q := fun v H1 => gName i v σ H1 D.nx) hown ?_
              obtain ⟨r, env, st, R, E, q⟩ := asg_read q
              refine ⟨r, env, st, R, E, ?_⟩
              cases k1 : evE (g.ctx (clOf X.mg) n) (.lc fr own p it cs el) env st with
              | bad => rw [k1] at q; exact q
              | exc => rw [k1] at q; exact q
              | ok p st1 =>
                rw [k1] at q
                exact fun v H1 r1 A1 R1 hv => gI_name (q v H1 r1 A1 R1 hv)
            | [], h => cases h
            | ⟨_, _, _, 0⟩ :: ⟨_, _, _, 0⟩ :: _, h => cases h
            | ⟨_, _, _, 0⟩ :: ⟨_, _, _, (_ + 1 : Nat)⟩ :: _, h => cases h
            | ⟨_, _, _, 0⟩ :: ⟨_, _, _, Int.negSucc _⟩ :: _, h => cases h
            | ⟨_, _, _, (_ + 1 : Nat)⟩ :: _, h => cases h
            | ⟨_, _, _, Int.negSucc _⟩ :: _, h => cases h
          · rename_i fr own p it cs vs2 p2 it2 cs2 el
            match gens, h2 with
            | [⟨tg, iter, ifs, 0⟩, ⟨tg2, iter2, ifs2, 0⟩], h =>
              obtain ⟨hh, h⟩ := cool_of h
              have h : (blkC N sc scope (ownL N own) && chkI g N sc it iter && okS iter && (!needsT it || isTgT tg) && decide (∀ i ∈ p.slots, i ∈ own) && chkP N scope p tg && decide (ifs.length ≤ 1) && chkEs g N (relS scope sc) cs ifs &&
                decide (∀ i ∈ vs2, i ∈ own) && chkI g N (relS scope sc) it2 iter2 && okS iter2 && (!needsT it2 || isTgT tg2) && decide (∀ i ∈ p2.slots, i ∈ vs2) && chkP N scope p2 tg2 && decide (ifs2.length ≤ 1) && chkEs g N (relS scope sc) cs2 ifs2 && chkE g N (relS scope sc) el elt) = true := h
              simp only [Bool.and_eq_true, decide_eq_true_eq] at h
              obtain ⟨⟨⟨⟨⟨⟨⟨⟨⟨⟨⟨⟨⟨⟨⟨⟨hb, hi2⟩, ho⟩, ht⟩, hown⟩, hp⟩, hl2⟩, hcs⟩, hv⟩, hi3⟩, ho2⟩, ht2⟩, hown2⟩, hp2⟩, hl3⟩, hcs2⟩, he⟩ := h
              have own2 : (ownL N own).map (·.2) = own := by simp [ownL, List.map_map, Function.comp_def]
              refine PS.imp (ps_setLc2 (own := ownL N own) (g := gX X.K p) (tt := tTX X.K (evTests (g.ctx (clOf X.mg) n) cs)) (g1 := gX X.K p2) (tt1 := tTX X.K (evTests (g.ctx (clOf X.mg) n) cs2)) (wi1 := iX X.K (evIx (g.ctx (clOf X.mg) n) it2)) (te := tX X.K (evE (g.ctx (clOf X.mg) n) el)) (S.cal.calm hh) hN hi hsl hsw2 (snd_I it S hi2 (fun z => by rw [z] at ht; simpa using ht) F) (blkOk_by (by rw [S.eN, S.eS]; exact hb)) (by rw [own2]; exact hv)
                (fun s H C cl fp => pg_any fun F => (pg_I (S.blk) hh F p tg hp).1) (fun s H C cl fp => (snd_Es cs (S.blk) hcs).ts hl2) (fun s H C cl fp => pi_any fun F => snd_I it2 (S.blk) hi3 (fun z => by rw [z] at ht2; simpa using ht2) F)
                (fun s H C cl fp => pg_any fun F => (pg_I (S.blk) hh F p2 tg2 hp2).1) (fun s H C cl fp => (snd_Es cs2 (S.blk) hcs2).ts hl3) (fun s H C cl fp => pe_any fun F => (snd_E el (S.blk) he F).1) (fun x => okS_set ho _ _) (fun env x => okS_set ho2 _ _)) fun D σ H q => ?_
              rw [own2]
              refine lc2_read (fr := fr) (Q := fun v H1 => gName i v σ H1 D.nx) hown hown2 ?_
              obtain ⟨r, env, st, R, E, q⟩ := asg_read q
              refine ⟨r, env, st, R, E, ?_⟩
              cases k1 : evE (g.ctx (clOf X.mg) n) (.lc2 fr own p it cs vs2 p2 it2 cs2 el) env st with
              | bad => rw [k1] at q; exact q
              | exc => rw [k1] at q; exact q
              | ok p st1 =>
                rw [k1] at q
                exact fun v H1 r1 A1 R1 hv => gI_name (q v H1 r1 A1 R1 hv)
            | [], h => cases h
            | [⟨_, _, _, 0⟩], h => cases h
            | ⟨_, _, _, 0⟩ :: ⟨_, _, _, 0⟩ :: _ :: _, h => cases h
            | ⟨_, _, _, 0⟩ :: ⟨_, _, _, (_ + 1 : Nat)⟩ :: _, h => cases h
            | ⟨_, _, _, 0⟩ :: ⟨_, _, _, Int.negSucc _⟩ :: _, h => cases h
            | ⟨_, _, _, (_ + 1 : Nat)⟩ :: _, h => cases h
            | ⟨_, _, _, Int.negSucc _⟩ :: _, h => cases h
      · exact plain (okS_sw (chk_okS h2) (by simpa using hlc) _ _ _)
    · obtain ⟨hh, h⟩ := cool_of h
      simp only [Bool.and_eq_true, Bool.not_eq_true'] at h
      obtain ⟨⟨⟨h1, hlc⟩, h2⟩, h3⟩ := h
      have plain : ∀ (hw : swappedStores [.Tuple ts k pt] ee X.env = pure none), PS X (.Assign [.Tuple ts k pt] ee pos) (tIS X.K F (sw X.mg W) (evS (g.ctx (clOf X.mg) n) (.asg (.p p) e))) := fun hw =>
        PS.imp (ps_asg (snd_E e S h2 F).1 (pg_I S hh F p _ h1).1 (show swapsWithSole [.Tuple ts k pt] ee pos.line X.env = pure false from sole_eq.trans (okS_sw (chk_okS h2) hlc _ _ _)) hw) fun D σ H q => asg_read q
      cases ht : isTgT ee with
      | false => exact plain (sw_other _ ht)
      | true =>
        cases ee <;> first | (cases ht; done) | skip
        rename_i vs k2 p2
        unfold tupOk at h3
        rw [Bool.or_eq_true, decide_eq_true_eq, Bool.and_eq_true, decide_eq_true_eq] at h3
        rcases h3 with h3 | ⟨h3, h4⟩
        · exact plain ((sw_gen S.eS hk ts vs k k2 pt p2).1 h3)
        · cases e <;> first | (cases h2; done) | skip
          rename_i es
          have h2 : chkEs g N sc es vs = true := h2
          have qs := snd_Es es S h2
          unfold parOk at h4
          split at h4
          · rename_i i j x px y py
            simp only [Bool.and_eq_true, decide_eq_true_eq] at h4
            obtain ⟨⟨⟨hij, hx⟩, hy⟩, hn⟩ := h4
            have h1 : ((decide (N[i]? = some x) && loc so x) && (decide (N[j]? = some y) && loc so y)) = true := h1
            simp only [Bool.and_eq_true, decide_eq_true_eq] at h1
            have hw := par_sw (k := k) (k2 := k2) (p := pt) (p2 := p2) S.eS hk h3 hn
            match vs, hw, qs, hlc with
            | [a, b], hw, qs, hlc =>
              refine PS.imp (ps_par (pos := pos) (S.cal.calm hh) S.nN (by rw [S.eN]; exact h1.1.1) (by rw [S.eN]; exact h1.2.1) hij (by rw [S.eS]; exact lk_local hx) (by rw [S.eS]; exact lk_local hy) (qs.pa F) hw) fun D σ H q => ?_
              obtain ⟨r, env, st, R, E, q⟩ := par_read q
              refine ⟨r, env, st, R, E, ?_⟩
              cases k1 : evEs (g.ctx (clOf X.mg) n) es env st with
              | bad => rw [k1] at q; exact q
              | exc => rw [k1] at q; exact q
              | ok ps st1 =>
                rw [k1] at q
                intro vs H1 r1 A1 R1 hv
                obtain ⟨r2, st2, env2, ps2, env3, R2, E2, hv2, e2, q⟩ := q vs H1 r1 A1 R1 hv
                match ps2, e2, hv2 with
                | [z1, z2], e2, .cons (v := v1) a1 (.cons (v := v2) a2 .nil) =>
                  cases e2
                  exact ⟨v1, v2, rfl, q _ ((E2.set i a1).set j a2)⟩
            | [], _, _, _ => simp [swB] at h3
            | [_], _, _, _ => simp [swB] at h3
            | _ :: _ :: _ :: _, _, _, _ => simp [swB] at h3
          · rename_i i j l x px y py z pz
            simp only [Bool.and_eq_true, decide_eq_true_eq] at h4
            obtain ⟨⟨⟨⟨⟨⟨hij, hil⟩, hjl⟩, hx⟩, hy⟩, hz⟩, hn⟩ := h4
            have h1 : ((decide (N[i]? = some x) && loc so x) && (decide (N[j]? = some y) && loc so y) && (decide (N[l]? = some z) && loc so z)) = true := h1
            simp only [Bool.and_eq_true, decide_eq_true_eq] at h1
            have hw := par_sw (k := k) (k2 := k2) (p := pt) (p2 := p2) S.eS hk h3 hn
            match vs, hw, qs, hlc with
            | [a, b, c], hw, qs, hlc =>
              refine PS.imp (ps_par3 (pos := pos) (S.cal.calm hh) S.nN (by rw [S.eN]; exact h1.1.1.1) (by rw [S.eN]; exact h1.1.2.1) (by rw [S.eN]; exact h1.2.1) hij hil hjl (by rw [S.eS]; exact lk_local hx) (by rw [S.eS]; exact lk_local hy) (by rw [S.eS]; exact lk_local hz) (qs.pa F) hw) fun D σ H q => ?_
              obtain ⟨r, env, st, R, E, q⟩ := par_read q
              refine ⟨r, env, st, R, E, ?_⟩
              cases k1 : evEs (g.ctx (clOf X.mg) n) es env st with
              | bad => rw [k1] at q; exact q
              | exc => rw [k1] at q; exact q
              | ok ps st1 =>
                rw [k1] at q
                intro vs H1 r1 A1 R1 hv
                obtain ⟨r2, st2, env2, ps2, env3, R2, E2, hv2, e2, q⟩ := q vs H1 r1 A1 R1 hv
                match ps2, e2, hv2 with
                | [z1, z2, z3], e2, .cons (v := v1) a1 (.cons (v := v2) a2 (.cons (v := v3) a3 .nil)) =>
                  cases e2
                  exact ⟨v1, v2, v3, rfl, q _ (((E2.set i a1).set j a2).set l a3)⟩
            | [], _, _, _ => simp [swB] at h3
            | [_], _, _, _ => simp [swB] at h3
            | [_, _], _, _, _ => simp [swB] at h3
            | _ :: _ :: _ :: _ :: _, _, _, _ => simp [swB] at h3
          · cases h4
  | .asg (.sub o i) e, g, X, N, sc, so, W, S, Z, hk, s, h, F => by
    have h9 := chkS_sub h
    clear h
    obtain ⟨eo, ei, tp, ee, pos, rfl, h⟩ := h9
    · skip
      simp only [Bool.and_eq_true, Bool.not_eq_true'] at h
      obtain ⟨⟨⟨⟨h1, h2⟩, h3⟩, h4⟩, h5⟩ := h
      have hs : swapsWithSole [.Subscript eo ei tp] ee pos.line X.env = pure false := sole_eq.trans (okS_sw (chk_okS h5) h2 _ _ _)
      exact PS.imp (ps_asg (snd_E e S h5 F).1 (pg_sub (snd_E o S h3 F).1 (snd_E i S h4 F).1 (sto_loc (F := F)) (fun v => okS_asg h1 _ _ _ _)) hs (sw_sub _ _)) fun D σ H q => sub_read q
  | .aug i o e, g, X, N, sc, so, W, S, Z, hk, s, h, F => by
    have h9 := chkS_aug h
    clear h
    obtain ⟨x, px, op, ee, pos, rfl, h⟩ := h9
    · skip
      simp only [Bool.and_eq_true, decide_eq_true_eq] at h
      obtain ⟨⟨rfl, h1⟩, h2⟩ := h
      obtain ⟨hi, hl, hf⟩ := S.at (i := i) (x := x) h1
      exact PS.imp (ps_aug S.nN hi hl (snd_E e S h2 F).1 (ip_aug (F := F) o) hf) fun D σ H q => aug_read q
  | .augS a i o e, g, X, N, sc, so, W, S, Z, hk, s, h, F => by
    have h9 := chkS_augS h
    clear h
    obtain ⟨eo, ei, tp, op, ee, pos, rfl, h⟩ := h9
    simp only [Bool.and_eq_true, decide_eq_true_eq] at h
    obtain ⟨⟨⟨⟨rfl, h1⟩, h2⟩, h3⟩, h4⟩ := h
    exact PS.imp (ps_augS (snd_E a S h2 F).1 (snd_E i S h3 F).1 (get_loc (F := F)) (snd_E e S h4 F).1 (ip_aug (F := F) o) (sto_loc (F := F)) (fun _ _ _ => okS_aug h1 _ _ _)) fun D σ H q => augS_read q
  | .iff c a b, g, X, N, sc, so, W, S, Z, hk, s, h, F => by
    have h9 := chkS_iff h
    clear h
    obtain ⟨ec, as, bs, pos, rfl, h⟩ := h9
    simp only [Bool.and_eq_true] at h
    exact PS.imp (ps_if (snd_E c S h.1.1 F).2 (snd_Ss a S Z hk h.1.2 F) (snd_Ss b S Z hk h.2 F)) fun D σ H q => if_read q
  | .fr p it b, g, X, N, sc, so, W, S, Z, hk, s, h, F => by
    have h9 := chkS_fr h
    clear h
    obtain ⟨tg, iter, bs, pos, rfl, h⟩ := h9
    · obtain ⟨hh, h⟩ := cool_of h
      simp only [Bool.and_eq_true] at h
      obtain ⟨⟨⟨⟨h1, h2⟩, h3⟩, h4⟩, h5⟩ := h
      exact PS.imp (ps_for Z.pass (S.cal.calm hh) (snd_I it S h1 (fun z => by rw [z] at h3; simpa using h3) F) (pg_I S hh F p tg h4).1 (snd_Ss b S Z hk h5 F) (fun x => okS_set h2 _ _)) fun D σ H q => for_read q
  | .wh c b, g, X, N, sc, so, W, S, Z, hk, s, h, F => by
    have h9 := chkS_wh h
    clear h
    obtain ⟨ec, bs, pos, rfl, h⟩ := h9
    · obtain ⟨hh, h⟩ := cool_of h
      simp only [Bool.and_eq_true] at h
      exact PS.imp (ps_while Z.pass (snd_E c S h.1 F).2 (snd_Ss b S Z hk h.2 F)) fun D σ H q => while_read q
  | .ret e, g, X, N, sc, so, W, S, Z, hk, s, h, F => by
    have h9 := chkS_ret h
    clear h
    obtain ⟨ee, pos, rfl, h⟩ := h9
    exact PS.imp (ps_ret (snd_E e S h F).1) fun D σ H q => ret_read q
  | .retn, g, X, N, sc, so, W, S, Z, hk, s, h, F => by
    have h9 := chkS_retn h
    clear h
    obtain ⟨pos, rfl⟩ := h9
    refine PS.imp ps_retN fun D σ H q => ?_
    obtain ⟨r, env, st, R, E, q⟩ := q
    exact q .non H r .refl R .non
  | .brk, g, X, N, sc, so, W, S, Z, hk, s, h, F => by
    have h9 := chkS_brk h
    clear h
    obtain ⟨pos, rfl⟩ := h9
    refine PS.imp ps_break fun D σ H q => ?_
    obtain ⟨r, env, st, R, E, q⟩ := q
    exact q σ H r .refl R E
  | .cont, g, X, N, sc, so, W, S, Z, hk, s, h, F => by
    have h9 := chkS_cont h
    clear h
    obtain ⟨pos, rfl⟩ := h9
    refine PS.imp ps_continue fun D σ H q => ?_
    obtain ⟨r, env, st, R, E, q⟩ := q
    exact q σ H r .refl R E
  | .pass, g, X, N, sc, so, W, S, Z, hk, s, h, F => by
    have h9 := chkS_pass h
    clear h
    obtain ⟨pos, rfl⟩ := h9
    refine PS.imp ps_pass fun D σ H q => ?_
    obtain ⟨r, env, st, R, E, q⟩ := q
    exact q σ H r .refl R E
  | .nev, g, X, N, sc, so, W, S, Z, hk, s, h, F => by
    refine PS.imp ps_never fun D σ H q => ?_
    obtain ⟨r, env, st, R, E, q⟩ := q
    exact q
  | .rs c e, g, X, N, sc, so, W, S, Z, hk, s, h, F => by
    have h9 := chkS_rs h
    clear h
    obtain ⟨x, px, ee, p2, p3, rfl, h⟩ := h9
    obtain ⟨hh, h⟩ := cool_of h
    simp only [Bool.and_eq_true, decide_eq_true_eq] at h
    obtain ⟨⟨⟨rfl, hg⟩, hc⟩, he⟩ := h
    obtain ⟨anc, hanc⟩ := Option.isSome_iff_exists.mp hc
    obtain ⟨C, T⟩ := S.link.ec x anc hanc
    obtain ⟨hgl, hd⟩ := S.gl hg
    obtain ⟨fI, fd, iC, tyI, F1, hb⟩ := T.made
    have room : Room (1 + 1) X.A := ((hh ▸ S.cal : Cal X (n + 2) false).room rfl).mono (by omega)
    have ok1 := chk_okS he
    have mk : PMk X (.Call (.Name x px) [ee] [] p2) (tMkO C (spInit X.K) [] (tCons (tI X.K F (sw X.mg W) (evE (g.ctx (clOf X.mg) n) e)) tNil)) :=
      pmk_oex (ds := []) (dvs := []) T.ox iC tyI F1 room hb .nil (fun _ _ _ _ _ _ _ z => z.elim) hgl T.mgc (pa_cons (snd_E e S he F).1 pa_nil (okS_star ok1 _ _)) hd (okS_star ok1 _ _) rfl
    exact PS.imp (ps_raise (S.cal.calm hh) S.tk mk) fun D σ H q => rs_read T q
  | .tr b hs, g, X, N, sc, so, W, S, Z, hk, s, h, F => by
    have h9 := chkS_tr h
    clear h
    obtain ⟨body, hds, pos, rfl, h⟩ := h9
    obtain ⟨hh, h⟩ := cool_of h
    simp only [Bool.and_eq_true, Bool.not_eq_true'] at h
    obtain ⟨⟨h1, h2⟩, h3⟩ := h
    match hds, h2, h3 with
    | [], h2, _ => cases h2
    | h0 :: hds, _, h3 =>
      obtain ⟨nm, cl⟩ := snd_H hs S Z hk hh h3 F
      refine PS.imp (ps_tryK (tb := fun W => tIS X.K F (sw X.mg W) (evSs (g.ctx (clOf X.mg) n) b)) Z.stk Z.fr Z.noex S.nN S.tk (fun W' pn xe tk pass => ?_) cl) fun D σ H q => try_read S.link.ec nm q
      exact snd_Ss b (X := X.tr pn xe) ⟨⟨S.cal.dp, S.cal.un, S.cal.gd, S.cal.hd, S.cal.calm⟩, S.link, S.eN, S.nd, S.eS, S.so, tk⟩ ⟨Z.stk, Z.fr, Z.noex, pass⟩ hk h1 F
theorem snd_H : ∀ (hs : Hds) {g : Sg} {X : Cx} {N : List Str} {sc so : Scope} {W : WX} (S : Std X g n N sc so W) (Z : TopX X) (hk : sc.kind = .function) (hh : g.hot = false) {hds : List ExceptHandler}, chkH g N sc so hs hds = true → ∀ F, clN X.mg g hs ∧ Clauses X hds (clOfH X.K X.mg F (g.ctx (clOf X.mg) n) g hs)
  | .nil, g, X, N, sc, so, W, S, Z, hk, hh, hds, h, F => by
    cases hds with
    | cons a b => cases h
    | nil => exact ⟨True.intro, .nil⟩
  | .cons c i b r, g, X, N, sc, so, W, S, Z, hk, hh, hds, h, F => by
    have suite : ∀ {bs : List Stmt}, chkSs g.heat N sc so b bs = true → ∀ (a : Addr) (pn : List (Addr × Obj)), PSs (X.suite a pn) bs (tIS X.K F (sw X.mg noW) (evSs (g.ctx (clOf X.mg) n) b)) := fun hc a pn => by
      have L := S.link
      exact snd_Ss b (g := g.heat) (X := X.suite a pn) ⟨⟨S.cal.dp, S.cal.un, S.cal.gd, fun z => (Bool.noConfusion (show true = false from z)), fun z => (Bool.noConfusion (show true = false from z))⟩, ⟨L.fn, L.gl, L.bs, fun c anc e => by
        obtain ⟨C, T⟩ := L.ec c anc e
        exact ⟨C, T.mgc, T.ox, T.kit, T.nn, fun x cv u z => T.isa x cv u (by cases z with
          | own a b => exact .own a b
          | ve a b => exact .ve a b), T.made⟩⟩, S.eN, S.nd, S.eS, S.so, fun u s' ⟨_, _, _, _, _, _, _, _, _, _, _, _, _, _, _, _, z⟩ => z.elim⟩ ⟨Z.stk, Z.fr, Z.noex, PassesOwn.never⟩ hk hc F
    obtain ⟨hd, hds, rfl⟩ : ∃ hd tl, hds = hd :: tl := by
      cases hds with
      | nil => cases i <;> cases h
      | cons a b => exact ⟨a, b, rfl⟩
    have key : ∃ x px b0 bs p2, excOk g c = true ∧ x = c ∧ glb sc x = true ∧ chkSs g.heat N sc so b (b0 :: bs) = true ∧ chkH g N sc so r hds = true ∧
        ((i = none ∧ hd = .ExceptHandler (some (.Name x px)) none (b0 :: bs) p2) ∨ ∃ j nn, i = some j ∧ hd = .ExceptHandler (some (.Name x px)) (some nn) (b0 :: bs) p2 ∧ N[j]? = some nn ∧ isLoc sc nn = true) := by
      unfold chkH at h
      split at h <;> first | (cases h; done) | skip
      · rename_i z1 z2
        cases z1
      · rename_i z1 z2
        cases z1
        cases z2
        simp only [Bool.and_eq_true, decide_eq_true_eq] at h
        exact ⟨_, _, _, _, _, h.1.1.2, h.1.1.1.1, h.1.1.1.2, h.1.2, h.2, .inl ⟨rfl, rfl⟩⟩
      · rename_i z1 z2
        cases z1
        cases z2
        simp only [Bool.and_eq_true, decide_eq_true_eq] at h
        exact ⟨_, _, _, _, _, h.1.1.1.1.2, h.1.1.1.1.1.1, h.1.1.1.1.1.2, h.1.2, h.2, .inr ⟨_, _, rfl, rfl, h.1.1.1.2, h.1.1.2⟩⟩
    obtain ⟨x, px, b0, bs, p2, he, rfl, hg, hb, hr, hform⟩ := key
    obtain ⟨nm, cl⟩ := snd_H r S Z hk hh hr F
    obtain ⟨cv, u, ex⟩ := exn_of S he
    obtain ⟨hgl, hd⟩ := S.gl hg
    have names : Names X x u := ⟨hgl, hd, by
      cases ex with
      | own z1 z2 => exact .inl z2
      | ve z1 z2 => exact .inr ⟨z2, by rw [z1]; exact PyProof.Rows.Boot.«ValueError», by rw [z1]; decide⟩⟩
    refine ⟨⟨⟨cv, u, ex⟩, nm⟩, ?_⟩
    unfold clOfH
    rw [exn_val ex]
    rcases hform with ⟨rfl, rfl⟩ | ⟨j, nn, rfl, rfl, hj, hl⟩
    · exact .bare names (suite hb) cl
    · refine .named names (by rw [S.eN]; exact hj) ?_ (suite hb) cl
      show X.env.scope.names.lookup nn = some .local
      rw [S.eS]
      exact lk_local hl
theorem snd_Ss : ∀ (b : Sxs) {g : Sg} {X : Cx} {N : List Str} {sc so : Scope} {W : WX} (S : Std X g n N sc so W) (Z : TopX X) (hk : sc.kind = .function) {ss : List Stmt}, chkSs g N sc so b ss = true → ∀ F, PSs X ss (tIS X.K F (sw X.mg W) (evSs (g.ctx (clOf X.mg) n) b))
  | .nil, g, X, N, sc, so, W, S, Z, hk, ss, h, F => by
    cases ss with
    | cons a b => cases h
    | nil =>
      refine PSs.imp pss_nil fun D σ H q => ?_
      obtain ⟨r, env, st, R, E, q⟩ := q
      exact q σ H r .refl R E
  | .cons s r, g, X, N, sc, so, W, S, Z, hk, ss, h, F => by
    cases ss with
    | nil => cases h
    | cons a b =>
      have h : (chkS g N sc so s a && chkSs g N sc so r b) = true := h
      simp only [Bool.and_eq_true] at h
      exact PSs.imp (pss_cons (snd_S s S Z hk h.1 F) (snd_Ss r S Z hk h.2 F)) fun D σ H q => seq_read q
end
end
end L2.Iv

/-! IvL: a def of the language keeps its promise. Own work. -/
namespace L2.Iv
open PySem PySem.Spec PyProof.Rows

/-! ### the lists that a callee is handed -/
theorem locs_nd : ∀ args : List PV, (locs args).Nodup
  | [] => .nil
  | .loc i :: r => by
    unfold locs
    split
    · exact locs_nd r
    · rename_i h
      exact List.nodup_cons.mpr ⟨h, locs_nd r⟩
  | .non :: r => locs_nd r
  | .bl _ :: r => locs_nd r
  | .int _ :: r => locs_nd r
  | .str _ :: r => locs_nd r
  | .tup _ :: r => locs_nd r
  | .lsv _ :: r => locs_nd r
  | .exn .. :: r => locs_nd r
theorem locs_mem {i : Nat} : ∀ {args : List PV}, PV.loc i ∈ args → i ∈ locs args
  | .loc j :: r, h => by
    unfold locs
    rcases List.mem_cons.mp h with e | h
    · cases e
      split
      · assumption
      · exact List.mem_cons_self
    · split
      · exact locs_mem h
      · exact List.mem_cons_of_mem _ (locs_mem h)
  | .non :: r, h => by rcases List.mem_cons.mp h with e | h; cases e; exact (locs_mem h : i ∈ locs r)
  | .bl _ :: r, h => by rcases List.mem_cons.mp h with e | h; cases e; exact (locs_mem h : i ∈ locs r)
  | .int _ :: r, h => by rcases List.mem_cons.mp h with e | h; cases e; exact (locs_mem h : i ∈ locs r)
  | .str _ :: r, h => by rcases List.mem_cons.mp h with e | h; cases e; exact (locs_mem h : i ∈ locs r)
  | .tup _ :: r, h => by rcases List.mem_cons.mp h with e | h; cases e; exact (locs_mem h : i ∈ locs r)
  | .lsv _ :: r, h => by rcases List.mem_cons.mp h with e | h; cases e; exact (locs_mem h : i ∈ locs r)
  | .exn .. :: r, h => by rcases List.mem_cons.mp h with e | h; cases e; exact (locs_mem h : i ∈ locs r)
theorem sub_facts {st : Store} : ∀ {ls : List Nat} {sub : Store}, subSt st ls = some sub → sub.length = ls.length ∧ ∀ (k i : Nat), ls[k]? = some i → ∃ xs, st[i]? = some xs ∧ sub[k]? = some xs ∧ freeAll xs = true
  | [], sub, h => by cases h; exact ⟨rfl, fun k i e => by simp at e⟩
  | i :: r, sub, h => by
    unfold subSt at h
    split at h
    · rename_i xs hx
      split at h
      · rename_i hf
        cases hr : subSt st r with
        | none => rw [hr] at h; cases h
        | some s2 =>
          rw [hr] at h
          cases h
          obtain ⟨h1, h2⟩ := sub_facts hr
          refine ⟨by simp [h1], fun k j e => ?_⟩
          cases k with
          | zero => simp at e; subst e; exact ⟨xs, hx, rfl, hf⟩
          | succ k => simpa using h2 k j (by simpa using e)
      · cases h
    · cases h
theorem put_len {st : Store} : ∀ (ls : List Nat) (s : Store), (putSt st ls s).length = st.length
  | [], s => by cases s <;> rfl
  | i :: r, [] => rfl
  | i :: r, xs :: s => by simp [putSt, put_len r s]
theorem put_out {st : Store} {i : Nat} : ∀ (ls : List Nat) (s : Store), i ∉ ls → (putSt st ls s)[i]? = st[i]?
  | [], s, _ => by cases s <;> rfl
  | j :: r, [], _ => rfl
  | j :: r, xs :: s, h => by
    have h1 : i ≠ j := fun e => h (e ▸ List.mem_cons_self)
    unfold putSt
    rw [List.getElem?_set_ne (Ne.symm h1)]
    exact put_out r s fun z => h (List.mem_cons_of_mem _ z)
theorem put_in {st : Store} {i : Nat} : ∀ (ls : List Nat) (s : Store) (k : Nat), ls.Nodup → ls.length = s.length → ls[k]? = some i → i < st.length → (putSt st ls s)[i]? = s[k]?
  | [], s, k, _, _, e, _ => by simp at e
  | j :: r, [], k, _, hl, _, _ => by simp at hl
  | j :: r, xs :: s, 0, nd, hl, e, hi => by
    simp at e; subst e
    unfold putSt
    rw [List.getElem?_set_self (by rw [put_len]; exact hi)]
    rfl
  | j :: r, xs :: s, k + 1, nd, hl, e, hi => by
    have e : r[k]? = some i := by simpa using e
    have h1 : i ≠ j := by
      rintro rfl
      exact (List.nodup_cons.mp nd).1 (List.mem_of_getElem? e)
    unfold putSt
    rw [List.getElem?_set_ne (Ne.symm h1)]
    exact put_in r s k (List.nodup_cons.mp nd).2 (by simpa using hl) e hi

/-! ### into the callee, and back -/
def rsOf (r : List Addr) (ls : List Nat) : List Addr := ls.map fun i => r.getD i 0
def shutOf (F r rs : List Addr) : List Addr := F ++ r.filter fun a => decide (a ∉ rs)
section
variable {K : PySem.W.Frag} {F : List Addr} {H H' : Hp} {r r' : List Addr} {st s2 : Store} {ls : List Nat} {sub : Store} {v : V} {p : PV} {vs : List V} {ps : List PV}
theorem rs_get (h : ∀ i ∈ ls, i < r.length) {k i : Nat} (e : ls[k]? = some i) : (rsOf r ls)[k]? = r[i]? := by
  unfold rsOf
  rw [List.getElem?_map, e]
  have := h i (List.mem_of_getElem? e)
  simp [List.getD, List.getElem?_eq_getElem this]
theorem rs_mem (h : ∀ i ∈ ls, i < r.length) {a : Addr} (m : a ∈ rsOf r ls) : ∃ (k i : Nat), ls[k]? = some i ∧ r[i]? = some a ∧ (rsOf r ls)[k]? = some a := by
  obtain ⟨k, e⟩ := List.mem_iff_getElem?.mp m
  have e0 := e
  unfold rsOf at e
  rw [List.getElem?_map] at e
  cases hk : ls[k]? with
  | none => rw [hk] at e; cases e
  | some i =>
    refine ⟨k, i, hk, ?_, e0⟩
    rw [← rs_get h hk]
    exact e0
theorem rs_sub (h : ∀ i ∈ ls, i < r.length) {a : Addr} (m : a ∈ rsOf r ls) : a ∈ r := by
  obtain ⟨k, i, _, e, _⟩ := rs_mem h m
  exact List.mem_of_getElem? e
theorem shut_cov {rs : List Addr} {b : Addr} (h : b ∈ r ∨ b ∈ F) : b ∈ rs ∨ b ∈ shutOf F r rs := by
  by_cases hb : b ∈ rs
  · exact .inl hb
  · rcases h with h | h
    · exact .inr (List.mem_append_right _ (List.mem_filter.mpr ⟨h, by simpa using hb⟩))
    · exact .inr (List.mem_append_left _ h)
theorem shut_sub {rs : List Addr} {b : Addr} (h : b ∈ shutOf F r rs) : b ∈ r ∨ b ∈ F := by
  rcases List.mem_append.mp h with h | h
  · exact .inr h
  · exact .inl (List.mem_filter.mp h).1
theorem ls_lt (R : Rel K F H r st) (hs : subSt st ls = some sub) : ∀ i ∈ ls, i < r.length := fun i hi => by
  obtain ⟨k, e⟩ := List.mem_iff_getElem?.mp hi
  obtain ⟨xs, h1, _⟩ := (sub_facts hs).2 k i e
  rw [R.len]
  exact (List.getElem?_eq_some_iff.mp h1).1
theorem rs_nd (R : Rel K F H r st) (hs : subSt st ls = some sub) (nd : ls.Nodup) : (rsOf r ls).Nodup := by
  have hlt := ls_lt R hs
  unfold rsOf List.Nodup
  rw [List.pairwise_map]
  refine List.Pairwise.imp_of_mem (fun {a b} ha hb hne e => hne ?_) nd
  have ga : r[a]? = some (r.getD a 0) := by simp [List.getD, List.getElem?_eq_getElem (hlt a ha)]
  have gb : r[b]? = some (r.getD b 0) := by simp [List.getD, List.getElem?_eq_getElem (hlt b hb)]
  rw [← e] at gb
  exact nd_ix R.nd ga gb
theorem Rel.enter (R : Rel K F H r st) (hs : subSt st ls = some sub) (nd : ls.Nodup) : Rel K (shutOf F r (rsOf r ls)) H (rsOf r ls) sub := by
  have hlt := ls_lt R hs
  obtain ⟨hl, hg⟩ := sub_facts hs
  refine ⟨by simp [rsOf, hl], rs_nd R hs nd, fun k a xs e1 e2 => ?_, fun a ha hf => ?_, fun a ha => ?_⟩
  · have hk : k < ls.length := by
      have := (List.getElem?_eq_some_iff.mp e2).1
      omega
    have e3 := List.getElem?_eq_getElem hk
    obtain ⟨ys, h1, h2, h3⟩ := hg k _ e3
    rw [e2] at h2; cases h2
    rw [rs_get hlt e3] at e1
    obtain ⟨vs, q1, q2⟩ := R.cells _ a xs e1 h1
    exact ⟨vs, q1, Reps.back (fun b hb => .inl (rs_sub hlt hb)) (fun b hb => shut_sub hb) q2 h3⟩
  · rcases List.mem_append.mp hf with h | h
    · exact R.apart a (rs_sub hlt ha) h
    · exact absurd ha (by simpa using (List.mem_filter.mp h).2)
  · rcases shut_sub ha with h | h
    · exact R.isl h
    · exact R.fs a h
theorem ren_free (h : p.free = true) : ren ls p = p := by
  cases p <;> first | rfl | cases h
theorem Reps.enter (R : Rel K F H r st) (hs : subSt st ls = some sub) : ∀ {vs : List V} {ps : List PV}, Reps K F H r vs ps → (∀ i, PV.loc i ∈ ps → i ∈ ls) → ps.all argOk = true → Reps K (shutOf F r (rsOf r ls)) H (rsOf r ls) vs (ps.map (ren ls))
  | _, _, .nil, _, _ => .nil
  | _, _, .cons (d := p) h q, m, ok => by
    simp only [List.all_cons, Bool.and_eq_true] at ok
    have hlt := ls_lt R hs
    refine .cons ?_ (q.enter R hs (fun i hi => m i (List.mem_cons_of_mem _ hi)) ok.2)
    by_cases hf : p.free = true
    · rw [ren_free hf]
      exact h.back (fun b hb => .inl (rs_sub hlt hb)) (fun b hb => shut_sub hb) hf
    · cases h with
      | @loc a i e =>
        have hi : i ∈ ls := m i List.mem_cons_self
        have hx : ls.idxOf i < ls.length := List.idxOf_lt_length_iff.mpr hi
        have e2 : ls[ls.idxOf i]? = some i := by rw [List.getElem?_eq_getElem hx, List.getElem_idxOf]
        exact .loc (by rw [rs_get hlt e2]; exact e)
      | non => exact absurd rfl hf
      | bl => exact absurd rfl hf
      | int => exact absurd rfl hf
      | str => exact absurd rfl hf
      | lsv _ _ => exact absurd ok.1 hf
      | tup _ _ => exact absurd ok.1 hf
      | exn _ _ _ => exact absurd ok.1 hf
/-- behind a call: ex, the new list that may be written (or none) -/
theorem Aft.leave {rs ex : List Addr} (A : Aft rs H r' H') (hsub : ∀ b ∈ rs, b ∈ r) (hex : ∀ b ∈ ex, b ∈ r') : Aft r H (r ++ ex) H' := by
  refine ⟨⟨ex, rfl⟩, fun a o e n => ?_⟩
  obtain ⟨q1, q2⟩ := A.keep a o e fun m => n (hsub a m)
  refine ⟨q1, fun m => ?_⟩
  rcases List.mem_append.mp m with m | m
  · exact n m
  · exact q2 (hex a m)
theorem cells_leave {ex : List Addr} (R : Rel K F H r st) (hs : subSt st ls = some sub) (nd : ls.Nodup) (A : Aft (rsOf r ls) H r' H') (R2 : Rel K (shutOf F r (rsOf r ls)) H' r' s2) (hm : ls.length ≤ s2.length) (hfl : flatSt (s2.take ls.length) = true)
    (hex : ∀ b ∈ ex, b ∈ r') : ∀ (i : Nat) (a : Addr) (xs : List PV), r[i]? = some a → (putSt st ls (s2.take ls.length))[i]? = some xs → ∃ vs, H' a = some (.lst vs) ∧ Reps K F H' (r ++ ex) vs xs := by
  intro i a xs e1 e2
  have hlt := ls_lt R hs
  have AL : Aft r H (r ++ ex) H' := A.leave (fun b hb => rs_sub hlt hb) hex
  have hi : i < st.length := by rw [← R.len]; exact (List.getElem?_eq_some_iff.mp e1).1
  by_cases hin : i ∈ ls
  · obtain ⟨k, ek⟩ := List.mem_iff_getElem?.mp hin
    have hk : k < ls.length := (List.getElem?_eq_some_iff.mp ek).1
    rw [put_in ls _ k nd (by simp [hm]) ek hi] at e2
    have hfx : freeAll xs = true := by
      have := List.all_eq_true.mp hfl xs (List.mem_of_getElem? e2)
      exact this
    rw [List.getElem?_take_of_lt hk] at e2
    have e3 : r'[k]? = some a := A.get (by rw [rs_get hlt ek]; exact e1)
    obtain ⟨vs, q1, q2⟩ := R2.cells k a xs e3 e2
    refine ⟨vs, q1, Reps.back (fun b hb => ?_) (fun b hb => ?_) q2 hfx⟩
    · rcases List.mem_append.mp hb with hb | hb
      · rcases shut_cov (F := F) (rs := rsOf r ls) (.inl hb) with z | z
        · obtain ⟨y, ey⟩ := A.pre
          exact .inl (by rw [ey]; exact List.mem_append_left _ z)
        · exact .inr z
      · exact .inl (hex b hb)
    · exact .inr (List.mem_append_left _ hb)
  · rw [put_out ls _ hin] at e2
    obtain ⟨vs, q1, q2⟩ := R.cells i a xs e1 e2
    have hn : a ∉ rsOf r ls := fun m => by
      obtain ⟨k, j, ek, ej, _⟩ := rs_mem hlt m
      have : i = j := nd_ix R.nd e1 ej
      subst this
      exact hin (List.mem_of_getElem? ek)
    exact ⟨vs, (A.keep a _ q1 hn).1, Reps.aft R AL q2⟩
theorem Rel.leave (R : Rel K F H r st) (hs : subSt st ls = some sub) (nd : ls.Nodup) (A : Aft (rsOf r ls) H r' H') (R2 : Rel K (shutOf F r (rsOf r ls)) H' r' s2) (hm : ls.length ≤ s2.length) (hfl : flatSt (s2.take ls.length) = true) :
    Rel K F H' r (putSt st ls (s2.take ls.length)) := by
  have hlt := ls_lt R hs
  refine ⟨by rw [put_len]; exact R.len, R.nd, fun i a xs e1 e2 => ?_, R.apart, fun a ha => ?_⟩
  · obtain ⟨vs, q1, q2⟩ := cells_leave (ex := []) R hs nd A R2 hm hfl (fun b hb => by simp at hb) i a xs e1 e2
    rw [List.append_nil] at q2
    exact ⟨vs, q1, q2⟩
  · obtain ⟨vs, q⟩ := R.fs a ha
    exact ⟨vs, (A.keep a _ q fun m => R.apart a (rs_sub hlt m) ha).1⟩
/-- a list that the callee made itself is none of ours -/
theorem own_new (R : Rel K F H r st) (hs : subSt st ls = some sub) (A : Aft (rsOf r ls) H r' H') (R2 : Rel K (shutOf F r (rsOf r ls)) H' r' s2) {j : Nat} {a : Addr} (e : r'[j]? = some a) (hj : ls.length ≤ j) : a ∉ r ∧ a ∉ F := by
  have n1 : a ∉ rsOf r ls := fun m => by
    obtain ⟨k, hk⟩ := List.mem_iff_getElem?.mp m
    have e2 : r'[k]? = some a := A.get hk
    have : j = k := nd_ix R2.nd e e2
    have hk2 := (List.getElem?_eq_some_iff.mp hk).1
    simp [rsOf] at hk2
    omega
  have n2 : a ∉ shutOf F r (rsOf r ls) := R2.apart a (List.mem_of_getElem? e)
  refine ⟨fun m => ?_, fun m => ?_⟩
  · rcases shut_cov (F := F) (rs := rsOf r ls) (.inl m) with z | z
    · exact n1 z
    · exact n2 z
  · exact n2 (List.mem_append_left _ m)
theorem Rel.leaveN (R : Rel K F H r st) (hs : subSt st ls = some sub) (nd : ls.Nodup) (A : Aft (rsOf r ls) H r' H') (R2 : Rel K (shutOf F r (rsOf r ls)) H' r' s2) (hm : ls.length ≤ s2.length) (hfl : flatSt (s2.take ls.length) = true)
    {j : Nat} {a : Addr} {xs : List PV} (e : r'[j]? = some a) (hj : ls.length ≤ j) (ex : s2[j]? = some xs) (hx : freeAll xs = true) : Rel K F H' (r ++ [a]) (putSt st ls (s2.take ls.length) ++ [xs]) := by
  have hlt := ls_lt R hs
  obtain ⟨n1, n2⟩ := own_new R hs A R2 e hj
  have R3 := R.leave hs nd A R2 hm hfl
  have hex : ∀ b ∈ [a], b ∈ r' := fun b hb => by rw [List.mem_singleton] at hb; subst hb; exact List.mem_of_getElem? e
  have pl : (putSt st ls (s2.take ls.length)).length = r.length := by rw [put_len, R.len]
  refine ⟨by simp [pl], ?_, fun i b ys e1 e2 => ?_, fun b hb => ?_, R3.fs⟩
  · rw [List.nodup_append]
    refine ⟨R.nd, by simp, fun x hx y hy => ?_⟩
    rw [List.mem_singleton] at hy
    rintro rfl
    exact n1 (hy ▸ hx)
  · by_cases hi : i < r.length
    · rw [List.getElem?_append_left hi] at e1
      rw [List.getElem?_append_left (by omega)] at e2
      exact cells_leave R hs nd A R2 hm hfl hex i b ys e1 e2
    · rw [List.getElem?_append_right (by omega)] at e1
      rw [List.getElem?_append_right (by omega)] at e2
      have hz : i - r.length = 0 := by
        have := (List.getElem?_eq_some_iff.mp e1).1
        simp at this; omega
      rw [hz] at e1
      rw [pl, hz] at e2
      simp at e1 e2
      subst e1; subst e2
      obtain ⟨vs, q1, q2⟩ := R2.cells j a xs e ex
      refine ⟨vs, q1, Reps.back (fun b hb => ?_) (fun b hb => ?_) q2 hx⟩
      · rcases List.mem_append.mp hb with hb | hb
        · rcases shut_cov (F := F) (rs := rsOf r ls) (.inl hb) with z | z
          · obtain ⟨y, ey⟩ := A.pre
            exact .inl (by rw [ey]; exact List.mem_append_left _ z)
          · exact .inr z
        · exact .inl (hex b hb)
      · exact .inr (List.mem_append_left _ hb)
  · rcases List.mem_append.mp hb with hb | hb
    · exact R.apart b hb
    · rw [List.mem_singleton] at hb; subst hb; exact n2
/-- the value handed back -/
theorem frz_back (R : Rel K F H r st) (hs : subSt st ls = some sub) (A : Aft (rsOf r ls) H r' H') (R2 : Rel K (shutOf F r (rsOf r ls)) H' r' s2) :
    ∀ (k : Nat), (∀ {v : V} {p q : PV}, Rep K (shutOf F r (rsOf r ls)) H' r' v p → frz ls.length s2 k p = some q → Rep K F H' r v q) ∧
      ∀ {vs : List V} {ps qs : List PV}, Reps K (shutOf F r (rsOf r ls)) H' r' vs ps → ps.mapM (frz ls.length s2 k) = some qs → Reps K F H' r vs qs := by
  have hlt := ls_lt R hs
  have cov : ∀ b, b ∈ r → (b ∈ r' ∨ b ∈ shutOf F r (rsOf r ls)) := fun b hb => by
    rcases shut_cov (F := F) (rs := rsOf r ls) (.inl hb) with z | z
    · obtain ⟨y, ey⟩ := A.pre
      exact .inl (by rw [ey]; exact List.mem_append_left _ z)
    · exact .inr z
  have covF : ∀ b, b ∈ F → (b ∈ r' ∨ b ∈ shutOf F r (rsOf r ls)) := fun b hb => .inr (List.mem_append_left _ hb)
  have many : ∀ k, (∀ {v : V} {p q : PV}, Rep K (shutOf F r (rsOf r ls)) H' r' v p → frz ls.length s2 k p = some q → Rep K F H' r v q) →
      ∀ {ps : List PV} {vs : List V} {qs : List PV}, Reps K (shutOf F r (rsOf r ls)) H' r' vs ps → ps.mapM (frz ls.length s2 k) = some qs → Reps K F H' r vs qs := by
    intro k one ps
    induction ps with
    | nil =>
      intro vs qs h e
      cases h
      cases e
      exact .nil
    | cons p ps ih =>
      intro vs qs h e
      cases h with
      | cons h1 h2 =>
        rw [List.mapM_cons] at e
        cases e1 : frz ls.length s2 k p with
        | none => rw [e1] at e; cases e
        | some q =>
          rw [e1] at e
          cases e2 : ps.mapM (frz ls.length s2 k) with
          | none => rw [e2] at e; cases e
          | some qs2 =>
            rw [e2] at e
            cases e
            exact .cons (one h1 e1) (ih h2 e2)
  intro k
  induction k with
  | zero =>
    have one : ∀ {v : V} {p q : PV}, Rep K (shutOf F r (rsOf r ls)) H' r' v p → frz ls.length s2 0 p = some q → Rep K F H' r v q := by
      intro v p q h e
      unfold frz at e
      split at e
      · rename_i hf
        cases e
        exact h.back cov covF hf
      · cases e
    exact ⟨one, many 0 one⟩
  | succ k ih =>
    have one : ∀ {v : V} {p q : PV}, Rep K (shutOf F r (rsOf r ls)) H' r' v p → frz ls.length s2 (k + 1) p = some q → Rep K F H' r v q := by
      intro v p q h e
      unfold frz at e
      split at e
      · rename_i hf
        cases e
        exact h.back cov covF hf
      · cases h with
        | non => cases e
        | bl => cases e
        | int => cases e
        | str => cases e
        | exn => cases e
        | @loc a i hi =>
          dsimp only at e
          split at e
          · cases e
          · rename_i hj
            split at e
            · rename_i xs hx
              cases e2 : xs.mapM (frz ls.length s2 k) with
              | none => rw [e2] at e; cases e
              | some ys =>
                rw [e2] at e
                cases e
                obtain ⟨vs, q1, q2⟩ := R2.cells i a xs hi hx
                obtain ⟨n1, n2⟩ := own_new R hs A R2 hi (by omega)
                exact .lsv (.inl ⟨q1, n1, n2⟩) (ih.2 q2 e2)
            · cases e
        | @tup a us ds hq hr =>
          dsimp only at e
          cases e2 : ds.mapM (frz ls.length s2 k) with
          | none => rw [e2] at e; cases e
          | some ys =>
            rw [e2] at e
            cases e
            exact .tup hq (ih.2 hr e2)
        | @lsv a us ds hq hr =>
          dsimp only at e
          cases e2 : ds.mapM (frz ls.length s2 k) with
          | none => rw [e2] at e; cases e
          | some ys =>
            rw [e2] at e
            cases e
            exact .lsv (hq.back cov covF) (ih.2 hr e2)
    exact ⟨one, many (k + 1) one⟩
end
end L2.Iv

/-! IvM: every def of a program of the language keeps its promise; the law's own call. Own work. -/
namespace L2.Iv
open PySem PySem.Spec PyProof.Rows

section
variable {P : Program} {w : World} {K : PySem.W.Frag} {mg : Str → Option Value} {base : Heap} {g : Sg}
theorem env_enter {F : List Addr} {H : Hp} {r : List Addr} {N : List Str} : ∀ {vs : List V} {ps : List PV}, Reps K F H r vs ps → EnvRel K F H r (ps.map some ++ List.replicate (N.length - ps.length) none) (start N vs) := by
  intro vs ps h
  have hl := h.length
  refine ⟨by simp [start, hl], fun i p e => ?_⟩
  by_cases hi : i < ps.length
  · rw [List.getElem?_append_left (by simpa using hi), List.getElem?_map] at e
    cases e2 : ps[i]? with
    | none => rw [e2] at e; cases e
    | some q =>
      rw [e2] at e
      cases e
      obtain ⟨v, h1, h2⟩ := h.get2 e2
      refine ⟨v, ?_, h2⟩
      unfold start
      rw [List.getElem?_append_left (by simp; omega), List.getElem?_map, h1]
      rfl
  · rw [List.getElem?_append_right (by simpa using hi), List.getElem?_replicate] at e
    split at e <;> cases e
theorem callF_succ (cl : Str → Nat) (ec : List (Str × List Str)) (tb : List (Str × Fn)) (gl : Str → Option PV) (n : Nat) (f : Str) (args : List PV) (st : Store) : callF cl ec tb gl (n + 1) f args st = (match tb.lookup f with
    | none => .bad
    | some fn => if args.length = fn.ps.length ∧ args.all argOk = true then match subSt st (locs args) with
        | some sub => match runB ⟨callF cl ec tb gl n, gl, cl, ec⟩ fn (args.map (ren (locs args))) sub with
          | .ok v s2 => backV fn.mt (locs args) st v s2
          | .exc c v s2 => (backV false (locs args) st v s2).bind fun v' st2 => .exc c v' st2
          | .bad => .bad
        | none => .bad
      else .bad) := rfl
/-- what is promised of a def's call, its body once told -/
theorem call_post {F : List Addr} {H : Hp} {r : List Addr} {st : Store} {Q : VK} {E : XK} {n : Nat} {f : Str} {fn : Fn} {vs : List V} {ps : List PV} (hl : g.tb.lookup f = some fn) (R : Rel K F H r st) (Vh : Reps K F H r vs ps)
    (h : Post K F (xw mg E) r H Q ((g.ctx (clOf mg) (n + 1)).fn f ps st)) :
    vs.length = fn.ps.length ∧ ∃ F', tIS K F' (sw mg fun cls d _ H' => E cls d H') (evSs (g.ctx (clOf mg) n) fn.body) { nx := fun _ H' => Q .non H', rt := Q } (start fn.N vs) H := by
  have h : Post K F (xw mg E) r H Q (callF (clOf mg) g.ecs g.tb (fun x => g.gl.lookup x) (n + 1) f ps st) := h
  rw [callF_succ, hl] at h
  dsimp only at h
  split at h
  · rename_i hc
    cases hs : subSt st (locs ps) with
    | none => rw [hs] at h; exact h.elim
    | some sub =>
      rw [hs] at h
      dsimp only at h
      refine ⟨by rw [Vh.length]; exact hc.1, shutOf F r (rsOf r (locs ps)), rsOf r (locs ps), _, sub, R.enter hs (locs_nd ps), env_enter (Vh.enter R hs (fun i hi => locs_mem hi) hc.2), ?_⟩
      have hrun : runB ⟨callF (clOf mg) g.ecs g.tb (fun x => g.gl.lookup x) n, fun x => g.gl.lookup x, clOf mg, g.ecs⟩ fn (ps.map (ren (locs ps))) sub = (evSs (g.ctx (clOf mg) n) fn.body ((ps.map (ren (locs ps))).map some ++ List.replicate (fn.N.length - (ps.map (ren (locs ps))).length) none) sub).quiet.bind fun f st1 => match f with
        | .rt v => .ok v st1
        | .nx _ => .ok .non st1
        | .rz c v _ => .exc c v st1
        | _ => .bad := rfl
      rw [hrun] at h
      have hsub : ∀ b ∈ rsOf r (locs ps), b ∈ r := fun b hb => rs_sub (ls_lt R hs) hb
      -- a value that is handed back frozen
      have cold : ∀ {p v' : PV} {s2 st2 : Store} {v : V} {H' : Hp} {r' : List Addr}, backV false (locs ps) st p s2 = .ok v' st2 → Aft (rsOf r (locs ps)) H r' H' → Rel K (shutOf F r (rsOf r (locs ps))) H' r' s2 → Rep K (shutOf F r (rsOf r (locs ps))) H' r' v p →
          Aft r H r H' ∧ Rel K F H' r st2 ∧ Rep K F H' r v v' := by
        intro p v' s2 st2 v H' r' e A R2 hp
        unfold backV at e
        dsimp only at e
        split at e
        · rename_i hm
          rw [if_neg Bool.false_ne_true] at e
          split at e
          · rename_i v2 hv
            cases e
            have A0 : Aft r H r H' := by
              have := A.leave (ex := []) hsub fun b hb => by simp at hb
              rw [List.append_nil] at this
              exact this
            exact ⟨A0, R.leave hs (locs_nd ps) A R2 hm.1 hm.2, (frz_back R hs A R2 64).1 hp hv⟩
          · cases e
        · cases e
      -- the end of the callee's body
      have fin : ∀ {p : PV} {s2 : Store} {v : V} {H' : Hp} {r' : List Addr}, Post K F (xw mg E) r H Q (backV fn.mt (locs ps) st p s2) → Aft (rsOf r (locs ps)) H r' H' → Rel K (shutOf F r (rsOf r (locs ps))) H' r' s2 → Rep K (shutOf F r (rsOf r (locs ps))) H' r' v p → Q v H' := by
        intro p s2 v H' r' h A R2 hp
        cases hmt : fn.mt with
        | false =>
          rw [hmt] at h
          cases e : backV false (locs ps) st p s2 with
          | bad => rw [e] at h; exact h.elim
          | exc =>
            exfalso
            unfold backV at e
            dsimp only at e
            split at e
            · rw [if_neg Bool.false_ne_true] at e
              split at e <;> cases e
            · cases e
          | ok v' st2 =>
            rw [e] at h
            obtain ⟨a1, a2, a3⟩ := cold e A R2 hp
            exact h v H' r a1 a2 a3
        | true =>
          rw [hmt] at h
          unfold backV at h
          dsimp only at h
          split at h
          · rename_i hm
            rw [if_pos rfl] at h
            cases hp with
            | @loc a j e =>
              dsimp only at h
              split at h
              · rename_i xs hx
                split at h
                · rename_i hj
                  refine h _ H' (r ++ [a]) (A.leave hsub fun b hb => ?_) (R.leaveN hs (locs_nd ps) A R2 hm.1 hm.2 e hj.1 hx hj.2) (.loc ?_)
                  · rw [List.mem_singleton] at hb; subst hb; exact List.mem_of_getElem? e
                  · rw [put_len, ← R.len]
                    simp
                · exact h.elim
              · exact h.elim
            | _ => exact h.elim
          · exact h.elim
      cases hb : evSs (g.ctx (clOf mg) n) fn.body ((ps.map (ren (locs ps))).map some ++ List.replicate (fn.N.length - (ps.map (ren (locs ps))).length) none) sub with
      | bad => rw [hb] at h; exact h.elim
      | exc c v s2 =>
        rw [hb] at h
        exact h.elim
      | ok fl s2 =>
        rw [hb] at h
        simp only [quiet_ok, bind_ok] at h
        cases fl with
        | rt p => exact fun v H' r' A R2 hp => fin h A R2 hp
        | nx e => exact fun σ' H' r' A R2 _ => fin h A R2 .non
        | bk e => exact h.elim
        | ct e => exact h.elim
        | rz c p e =>
          intro σ' v H' r' A R2 _ hp
          dsimp only at h
          cases e2 : backV false (locs ps) st p s2 with
          | bad => rw [e2] at h; exact h.elim
          | exc =>
            exfalso
            unfold backV at e2
            dsimp only at e2
            split at e2
            · rw [if_neg Bool.false_ne_true] at e2
              split at e2 <;> cases e2
            · cases e2
          | ok v' st2 =>
            rw [e2] at h
            obtain ⟨a1, a2, a3⟩ := cold e2 A R2 hp
            exact h v H' r a1 a2 a3
  · exact h.elim

/-- a def of the text: its promise for n + 1 calls, from the others' for n -/
theorem fn_keeps {n : Nat} {f qual : Str} {fn : Fn} {st : Stmt} {a : Addr} {fd : FuncData} (hh : g.hot = false) (L : Link P w K mg base g n) (hl : g.tb.lookup f = some fn) (D : Fun K f qual st a fd) (S : FnScope fn.N fn.ps (defScope st)) (c : chkSs g fn.N (defScope st) (defScope st) fn.body (defBody st) = true) :
    FnG P w K mg base (n + 1) a fd fn.ps (spI K mg g (n + 1) f) := by
  obtain ⟨oc, od, kV, doc, pm, an, cdv, ct, osl, rfl, lk, hcd⟩ := D.ex
  refine ⟨fun vs H Q E ⟨F, r, st, ps, R, Vh, h⟩ => (call_post hl R Vh h).1, ?_⟩
  intro A outer s H args us vs Q E hr hg e0 hb rv ⟨F, r, st1, ps, R, Vh, h⟩
  obtain ⟨hlen, F', hq⟩ := call_post hl R Vh h
  have hin : K.In s.heap := e0.mod.kin.keeps fun b o e => (e0.bs b o e).1
  have params : ∀ y ∈ fn.ps.zip us, (defScope st).names.lookup y.1 = some .local ∨ ((defScope st).names.lookup y.1 = some .cell ∧ ((cellsFrom (s.heap.objs.size + 1) (defScope st).names []).lookup y.1).isSome = true) := fun y hy => by
    rcases S.par y.1 (List.of_mem_zip hy).1 with q | q
    · exact .inl q
    · exact .inr ⟨q, PySem.W.cellsFrom_some _ _ _ (.inl q)⟩
  refine codeAny_call_function hr.depth (hin _ _ lk) rfl S.co S.gen rfl (PySem.W.codeRec_of hin hcd) (hb _ _ _ _ ?_)
  refine wpAny_newFunctionEnv_cells S.kind params fun env he s1 x => ?_
  subst he
  refine ⟨Heap.NoLimit.keeps (e0.mod.nolimit.keeps fun b o e => (e0.bs b o e).1) x.toInCall.keep, codeAny_func ?_⟩
  let X := cxOf (L2.CX P w) P w K mg base fn.N qual (defScope st) a cdv A outer s H E
  have rd : Room (n + 2) X.A := Room.deeper (show Room (n + 2 + 1) A from hr) _
  have Sd : Std X g n fn.N (defScope st) (defScope st) (fun cls d _ H' => E cls d H') := ⟨⟨rd.dp, rd.un, hg, fun _ => rd.hd, fun _ => rfl⟩, L, rfl, S.nd, rfl, fun x hx => ⟨hx, .inl rfl⟩, takes_of rfl rfl rfl rfl⟩
  have I : Inv X [] (start fn.N vs) H s1 := inv_start S hr.hd e0 hlen rv x
  have body := (snd_Ss fn.body Sd ⟨rfl, rfl, rfl, passes_of rfl⟩ S.kind c F').run [] s1 (start fn.N vs) H _ I hq
  refine wpAny_mono body (fun fl s' hs => ?_) fun e s' hs => hs
  have done : ∀ {σ' : St} {H' : Hp} {v : V} {u : Value}, Inv X [] σ' H' s' → RelV v u → Q v H' → CE outer P w H s Q u s' := fun {σ' H' v u} J rv q => ⟨v, H', J.os, J.bare, J.base, J.hok, rv, q⟩
  cases fl with
  | next => obtain ⟨σ', H', J, q⟩ := hs; exact done (v := V.non) (u := Value.none) J rfl q
  | ret u => obtain ⟨v, σ', H', J, rv, q⟩ := hs; exact done J rv q
  | brk => obtain ⟨_, _, _, q⟩ := hs; exact False.elim q
  | cont => obtain ⟨_, _, _, q⟩ := hs; exact False.elim q

/-- __init__ of the errors, by its text -/
theorem init_keeps {x qual : Str} {st : Stmt} {fI : Addr} {fd : FuncData} {p1 p2 p3 p4 p5 p6 q1 q2 q3 q4 : Pos} {pl : PySem.Env → Sem Bool} (D : Fun K x qual st fI fd) (S : FnScope ["self", "value"] ["self", "value"] (defScope st)) (hse : Vis (defScope st) "self") (vv : Vis (defScope st) "value")
    (hg : (defScope st).names.lookup (Str.ofString "ValueError") = some NameKind.globalImplicit) (hm : mg "ValueError" = none) (vV : PySem.W.findCls K (.type "ValueError") (.type "type") "__init__" = some (.val (.builtin "ValueError.__init__")))
    (hb : defBody st = [.Expr (.Call (.Attribute (.Name "ValueError" p1) "__init__" p2) [.Name "self" p3, .Name "value" p4] [] p5) p6, .Assign [.Attribute (.Name "self" q1) "value" q2] (.Name "value" q3) q4])
    (hc : ∀ env : PySem.Env, eval (.Call (.Attribute (.Name "ValueError" p1) "__init__" p2) [.Name "self" p3, .Name "value" p4] [] p5) env = (do
      let ov ← eval (.Name "ValueError" p1) env
      standAt p2.atName
      let (f, first) ← holding [ov] (getMethod ov "__init__" (pl env))
      callWith p5 f first (backTo p5 (starEach [.Name "self" p3, .Name "value" p4] env)) (backToKw p5 (keywordEach [] env)))) : FnOk P w K mg base CX0 1 fI fd ["self", "value"] (spInit K) := by
  refine D.ok S (fun vs H Q E ⟨a, C, v, e, _⟩ => by rw [e]; rfl) fun cdv A outer s H vs Q E hr ⟨a, C, v, e, T, hno, ha, q⟩ => ?_
  rw [hb]
  have e1 : PE (cxOf CX0 P w K mg base ["self", "value"] qual (defScope st) fI cdv A outer s H E).nox (.Name "self" p3) (tVar 0) := pe_var rfl hse (by decide) (by decide)
  have e2 : PE (cxOf CX0 P w K mg base ["self", "value"] qual (defScope st) fI cdv A outer s H E).nox (.Name "value" p4) (tVar 1) := pe_var rfl vv (by decide) (by decide)
  have e3 : PE (cxOf CX0 P w K mg base ["self", "value"] qual (defScope st) fI cdv A outer s H E).nox (.Name "self" q1) (tVar 0) := pe_var rfl hse (by decide) (by decide)
  have e4 : PE (cxOf CX0 P w K mg base ["self", "value"] qual (defScope st) fI cdv A outer s H E).nox (.Name "value" q3) (tVar 1) := pe_var rfl vv (by decide) (by decide)
  refine ⟨_, pss_cons (ps_expr (pe_veinit (pl := pl _) hg hm vV (pa_cons e1 (pa_cons e2 pa_nil)) (hc _) rfl rfl) rfl) (pss_cons (ps_ost e3 e4 rfl) pss_nil), ?_⟩
  subst e
  refine ⟨_, rfl, _, rfl, a, C, [v], rfl, by show 1 ≤ 1000; decide, T, ha, ?_⟩
  exact ⟨_, rfl, _, rfl, a, C, rfl, T, hno, .inl ⟨ha, fun dx hn ne => q dx hn ne⟩⟩

/-! ### the whole program -/
/-- a class of errors where the top has put it -/
structure EcAt (K : PySem.W.Frag) (mg : Str → Option Value) (g : Sg) (c : Str) (anc : List Str) (C : Addr) : Prop where
  mgc : mg c = some (.ref C)
  ox : OexC K C
  kit : KitC K C
  nn : PySem.W.kitOne K (.type "NoneType") (.ref C) = some false
  isa : ∀ x cv u, ExN mg g x cv u → PySem.W.kitOne K (.ref C) u = some (decide (x ∈ anc)) ∧ PySem.W.exmOne K (.ref C) u = some (decide (x ∈ anc))
  made : ∃ fI fd, PySem.W.findIn K (.ref C) "__init__" = some (some (.ref fI)) ∧ PySem.W.typeIn K (.ref fI) = some (.type "function") ∧ (∀ (P : Program) (w : World) (base : Heap), FnOk P w K mg base CX0 1 fI fd ["self", "value"] (spInit K)) ∧ Binds K fd ["self", "value"] []
/-- a def where the top has put it -/
structure DefAt (K : PySem.W.Frag) (mg : Str → Option Value) (g : Sg) (f : Str) (fn : Fn) (a : Addr) (fd : FuncData) : Prop where
  mgf : mg f = some (.ref a)
  fun' : ∃ st qual, Fun K f qual st a fd ∧ FnScope fn.N fn.ps (defScope st) ∧ chkSs g fn.N (defScope st) (defScope st) fn.body (defBody st) = true
  bd : ∀ (s : Shared) (us : List Value), us.length = fn.ps.length → BindsTo s fd ⟨us, []⟩ (fn.ps.zip us)
  kw : ∀ ks np perm, (f, ks, np, perm) ∈ g.kcs → ∀ (s : Shared) (us ws : List Value), us.length = np → ws.length = ks.length → BindsTo s fd ⟨us, ks.zip ws⟩ (fn.ps.zip (perm.map fun i => (us ++ ws).getD i .none))
structure Prg (K : PySem.W.Frag) (mg : Str → Option Value) (g : Sg) : Prop where
  fn : ∀ f fn, g.tb.lookup f = some fn → ∃ a fd, DefAt K mg g f fn a fd
  gl : ∀ x p, g.gl.lookup x = some p → ∃ u v, mg x = some u ∧ RelV v u ∧ ∀ F H r, Rep K F H r v p
  bs : ∀ x, x ∈ g.bs → mg x = none
  ec : ∀ c anc, g.ecs.lookup c = some anc → ∃ C, EcAt K mg g c anc C
  cool : g.hot = false
theorem Prg.ecs (G : Prg K mg g) : ∀ c anc, g.ecs.lookup c = some anc → ∃ C, EcF P w K mg base g c anc C := fun c anc h => by
  obtain ⟨C, T⟩ := G.ec c anc h
  obtain ⟨fI, fd, h1, h2, h3, h4⟩ := T.made
  exact ⟨C, T.mgc, T.ox, T.kit, T.nn, T.isa, fI, fd, h1, h2, h3 P w base, h4⟩
theorem Prg.link (G : Prg K mg g) : ∀ n : Nat, Link P w K mg base g n
  | 0 => by
    refine ⟨fun f fn hl => ?_, G.gl, G.bs, G.ecs⟩
    obtain ⟨a, fd, D⟩ := G.fn f fn hl
    obtain ⟨st, qual, h1, h2, h3⟩ := D.fun'
    have no : ∀ {vs : List V} {H : Hp} {Q : VK} {E : XK}, spI K mg g 0 f vs H Q E → False := fun ⟨F, r, st, ps, R, Vh, h⟩ => h
    exact ⟨a, fd, D.mgf, h1.kp, ⟨fun vs H Q E h => (no h).elim, fun _ _ _ _ _ _ _ _ _ _ _ _ _ _ h => (no h).elim⟩, D.bd, D.kw⟩
  | n + 1 => by
    refine ⟨fun f fn hl => ?_, G.gl, G.bs, G.ecs⟩
    obtain ⟨a, fd, D⟩ := G.fn f fn hl
    obtain ⟨st, qual, h1, h2, h3⟩ := D.fun'
    exact ⟨a, fd, D.mgf, h1.kp, fn_keeps G.cool (G.link n) hl h1 h2 h3, D.bd, D.kw⟩
end

/-! ### the law's own call -/
theorem reps_of_ints {K : PySem.W.Frag} {F : List Addr} {H : Hp} {r : List Addr} : ∀ ns : List Int, Reps K F H r (ns.map V.int) (ns.map PV.int)
  | [] => .nil
  | n :: ns => .cons (.int n) (reps_of_ints ns)
/-- the abstract heap in which the script alone may be tracked, as a thing that nobody writes -/
def scriptH (own : Bool) (a : Addr) (o : Obj) (xs : List V) : Hp := fun b => if own = false ∧ b = a then some (.frz o (.lst xs)) else none
/-- the law holds of every script if its mirror answers so -/
theorem law_true {l : PySem.W.OpenLaw} {k : Nat} {q : Program} {loose : List Str} {XP : (Str → Option Value) → Heap → Prop} {YP : World → Heap → Prop} {d : DefRec} {K : Params → PySem.W.Frag} {g : Sg} {fn : Fn} {x : Str}
    (hn : l.most = some 63) (hdf : d.params.defaults = []) (hr : Room (k + 2) callerA) (hY : ∀ (w : World) (h : Heap), YP w h → (K w.params).In h)
    (hl : g.tb.lookup d.name = some fn) (hps : fn.ps = [x])
    (F : ∀ (w : World) (mg : Str → Option Value) (fa : Addr) (h : Heap), (K w.params).In h → h.Ns mainGlobals mg → mg d.name = some (.ref fa) → Prg (K w.params) mg g)
    (A : ∀ (cl : Str → Nat) (ns : List Int), ns.length ≤ 63 → ∃ st, callF cl g.ecs g.tb (fun y => g.gl.lookup y) k d.name [.lsv (ns.map PV.int)] [] = .ok (.bl true) st) :
    PySem.W.WalkO q loose XP YP l.row.toRowW d [] (fun f vs => PySem.call f vs) := by
  refine Att.attach_call hn hdf fun w s₀ s₁ mg mb fa o pm cd doc a vs ns G Y ho hd hcd hmg hobj hints hlen hg => ?_
  have hK := hY w _ Y
  have Pr := F w mg fa _ hK G.T.g hmg
  have rv := vals_ints hints
  have hsz : ns.length ≤ sizeLine := Nat.le_trans hlen (by decide)
  obtain ⟨own, how⟩ : ∃ own : Bool, (own = true ↔ ∃ u, (K w.params).lookup a = some u) := by
    cases e : (K w.params).lookup a with
    | none => exact ⟨false, ⟨fun z => (nomatch z), fun ⟨u, z⟩ => (nomatch z)⟩⟩
    | some u => exact ⟨true, ⟨fun _ => ⟨u, rfl⟩, fun _ => rfl⟩⟩
  generalize hso : ({ cls := .type "list", data := .seq vs.toArray } : Obj) = so at hobj
  generalize hH : scriptH own a so (ns.map V.int) = H
  have onlyA : ∀ b, H b ≠ none → own = false ∧ b = a := fun b hb => by
    rw [← hH] at hb
    unfold scriptH at hb
    by_cases c : own = false ∧ b = a
    · exact c
    · rw [if_neg c] at hb; exact absurd rfl hb
  have atA : own = false → H a = some (.frz so (.lst (ns.map V.int))) := fun e => by
    rw [← hH]
    exact if_pos ⟨e, rfl⟩
  have notK : own = false → (K w.params).lookup a = none := fun e => by
    cases z : (K w.params).lookup a with
    | none => rfl
    | some u => rw [how.mpr ⟨u, z⟩] at e; cases e
  have sees : ∀ b u, H b = some u → b = a ∧ u = .frz so (.lst (ns.map V.int)) := fun b u e => by
    obtain ⟨c1, c2⟩ := onlyA b (by rw [e]; exact fun z => nomatch z)
    subst c2
    rw [atA c1] at e
    exact ⟨rfl, (Option.some.inj e).symm⟩
  have isF : SqF (K w.params) [] H [] a (ns.map V.int) := by
    cases e : own with
    | false => exact .inr (.inl ⟨so, atA e⟩)
    | true =>
      obtain ⟨u, hu⟩ := how.mp e
      have z := hK a u hu
      rw [hobj] at z
      cases z
      subst hso
      exact .inr (.inr ⟨_, vs.toArray, _, hu, rfl, rfl, rfl, by rw [List.size_toArray, hints.length]; exact hsz, by simpa using rv⟩)
  have hok : HOk l.prog w H s₁.heap := fun b u e => by
    obtain ⟨rfl, rfl⟩ := sees b u e
    subst hso
    exact ⟨hobj, by rw [List.length_map]; exact hsz, vs, _, rv, hobj⟩
  have stays : ∀ {b : Addr} {u : Obj}, s₁.heap.get? b = some u → H b = none → (hidT s₁.heap H).get? b = some u := fun e n => hidT_get e n
  have dicts : ∀ {b : Addr} {u : Obj} {es : Array DictEntry} {ep : Nat}, s₁.heap.get? b = some u → u.data = .dict es ep → H b = none := fun {b u es ep} e d => by
    cases z : H b with
    | none => rfl
    | some y =>
      obtain ⟨rfl, _⟩ := sees b y z
      rw [hobj] at e
      cases e
      rw [← hso] at d
      have d' : Data.seq vs.toArray _ = Data.dict es ep := d
      cases d'
  have names : ∀ {b : Addr} {m : Str → Option Value}, s₁.heap.Ns b m → (hidT s₁.heap H).Ns b m := fun {b m} ⟨u, es, ep, e, d, z⟩ => ⟨u, es, ep, stays e (dicts e d), d, z⟩
  have hKb : (K w.params).In (hidT s₁.heap H) := fun b u e => stays (hK b u e) (by
    cases z : H b with
    | none => rfl
    | some y =>
      obtain ⟨c1, rfl⟩ := onlyA b (by rw [z]; exact fun z => nomatch z)
      rw [notK c1] at e
      cases e)
  have hM : Mod (K w.params) mg (hidT s₁.heap H) := ⟨hKb, names G.T.g, ⟨mb, names G.T.b, G.T.builtins⟩, let ⟨mc, h1, h2⟩ := G.T.nolimit; ⟨mc, names h1, h2⟩⟩
  have e0 : Env0 l.prog w (K w.params) mg (hidT s₁.heap H) callerA [] s₁ H := ⟨rfl, hM, fun b u e => of_hidT e, Nat.le_of_eq (hidT_size _ _), trivial, fun b hb => absurd (show b ∈ ([] : List Addr) from hb) (by simp), hok, .of_eq hg⟩
  have L : Link l.prog w (K w.params) mg (hidT s₁.heap H) g k := Pr.link k
  obtain ⟨a2, fd, hma, _, hG, hbd, _⟩ := L.fn _ fn hl
  have ea : fa = a2 := by
    rw [hmg] at hma
    cases hma
    rfl
  subst ea
  rw [hps] at hG hbd
  obtain ⟨st, hA⟩ := A (clOf mg) ns hlen
  have hsp : spI (K w.params) mg g k d.name [.ref a] H (fun v _ => v = .bl true) (fun _ _ _ => False) := by
    refine ⟨[], [], [], [.lsv (ns.map PV.int)], ⟨rfl, .nil, fun i b xs e => by simp at e, fun b hb => absurd hb (by simp), fun b hb => absurd hb (by simp)⟩, .cons (.lsv isF (reps_of_ints ns)) .nil, ?_⟩
    have hA : (g.ctx (clOf mg) k).fn d.name [.lsv (ns.map PV.int)] [] = .ok (.bl true) st := hA
    rw [hA]
    intro v H' r' _ _ hv
    cases hv
    rfl
  refine codeAny_mono (hG.run callerA [] s₁ H ⟨[.ref a], []⟩ [.ref a] [.ref a] _ _ hr rfl e0 (hbd s₁ [.ref a] rfl) (.cons rfl .nil) hsp) fun r s' h => ?_
  cases r with
  | error e => obtain ⟨_, _, _, _, _, _, _, _, _, _, _, _, z⟩ := h; exact z.elim
  | ok fl =>
    cases fl with
    | next => exact False.elim h
    | brk => exact False.elim h
    | cont => exact False.elim h
    | ret u =>
      obtain ⟨v, H', os, bare, un, hok', rr, hv⟩ := h
      have hv : v = .bl true := hv
      subst hv
      obtain rfl : u = Value.bool true := rr
      refine ⟨rfl, OldK.of_keep fun b u e => ?_, os, bare⟩
      cases z : H b with
      | none => exact un.keep b u e z (fun m => absurd (show b ∈ ([] : List Addr) from m) (by simp)) (by simp)
      | some y =>
        obtain ⟨rfl, rfl⟩ := sees b y z
        have z2 := un.frzs b so _ z
        obtain ⟨e1, _⟩ := hok b _ z
        obtain ⟨e2, _⟩ := hok' b _ z2
        rw [e] at e1
        cases e1
        exact e2
end L2.Iv

/-! IvN: tools for reading a mirror: weakest wishes, loops, comprehensions, calls. Own work. -/
namespace L2.Iv
open PySem

/-- it ends well, and so -/
def wpO {α : Type} (o : Out α) (Q : α → Store → Prop) : Prop := match o with
  | .ok a st => Q a st
  | _ => False
section
variable {α β : Type} {Q : α → Store → Prop}
@[simp] theorem wp_ok (a : α) (st : Store) : wpO (.ok a st) Q = Q a st := rfl
@[simp] theorem wp_bad : wpO (.bad : Out α) Q = False := rfl
@[simp] theorem wp_exc (c : Str) (v : PV) (st : Store) : wpO (.exc c v st : Out α) Q = False := rfl
@[simp] theorem wp_bind (o : Out β) (f : β → Store → Out α) : wpO (o.bind f) Q = wpO o fun a st => wpO (f a st) Q := by cases o <;> rfl
@[simp] theorem wp_guard (c : Prop) [Decidable c] (a : Out α) : wpO (if c then a else .bad) Q = (c ∧ wpO a Q) := by
  by_cases h : c
  · rw [if_pos h]; exact propext ⟨fun q => ⟨h, q⟩, fun q => q.2⟩
  · rw [if_neg h]; exact propext ⟨False.elim, fun q => h q.1⟩
@[simp] theorem wp_guard2 (c : Prop) [Decidable c] (a : Out α) : wpO (if c then .bad else a) Q = (¬ c ∧ wpO a Q) := by
  by_cases h : c
  · rw [if_pos h]; exact propext ⟨False.elim, fun q => absurd h q.1⟩
  · rw [if_neg h]; exact propext ⟨fun q => ⟨h, q⟩, fun q => q.2⟩
theorem wp_ite (c : Prop) [Decidable c] (a b : Out α) : wpO (if c then a else b) Q = if c then wpO a Q else wpO b Q := by
  by_cases h : c
  · rw [if_pos h, if_pos h]
  · rw [if_neg h, if_neg h]
@[simp] theorem wp_of (o : Option α) (st : Store) : wpO (.of o st) Q = match o with
    | some a => Q a st
    | none => False := by cases o <;> rfl
@[simp] theorem wp_quiet (o : Out α) : wpO o.quiet Q = wpO o Q := by cases o <;> rfl
theorem wp_mono {Q' : α → Store → Prop} {o : Out α} (h : wpO o Q) (i : ∀ a st, Q a st → Q' a st) : wpO o Q' := by
  cases o with
  | ok a st => exact i a st h
  | exc => exact h
  | bad => exact h
theorem wp_eq {o : Out α} {a : α} {st : Store} (e : o = .ok a st) (h : Q a st) : wpO o Q := by rw [e]; exact h
theorem wp_get {o : Out α} (h : wpO o Q) : ∃ a st, o = .ok a st ∧ Q a st := by
  cases o with
  | ok a st => exact ⟨a, st, rfl, h⟩
  | exc => exact h.elim
  | bad => exact h.elim
/-- with a wish for errors too -/
def wpX {α : Type} (o : Out α) (Q : α → Store → Prop) (E : Str → PV → Store → Prop) : Prop := match o with
  | .ok a st => Q a st
  | .exc c v st => E c v st
  | .bad => False
@[simp] theorem wpX_ok (a : α) (st : Store) (E : Str → PV → Store → Prop) : wpX (.ok a st) Q E = Q a st := rfl
@[simp] theorem wpX_exc (c : Str) (v : PV) (st : Store) (E : Str → PV → Store → Prop) : wpX (.exc c v st : Out α) Q E = E c v st := rfl
@[simp] theorem wpX_bad (E : Str → PV → Store → Prop) : wpX (.bad : Out α) Q E = False := rfl
@[simp] theorem wpX_bind (o : Out β) (f : β → Store → Out α) (E : Str → PV → Store → Prop) : wpX (o.bind f) Q E = wpX o (fun a st => wpX (f a st) Q E) E := by cases o <;> rfl
@[simp] theorem wpX_guard (c : Prop) [Decidable c] (a : Out α) (E : Str → PV → Store → Prop) : wpX (if c then a else .bad) Q E = (c ∧ wpX a Q E) := by
  by_cases h : c
  · rw [if_pos h]; exact propext ⟨fun q => ⟨h, q⟩, fun q => q.2⟩
  · rw [if_neg h]; exact propext ⟨False.elim, fun q => h q.1⟩
@[simp] theorem wpX_of (o : Option α) (st : Store) (E : Str → PV → Store → Prop) : wpX (.of o st) Q E = match o with
    | some a => Q a st
    | none => False := by cases o <;> rfl
theorem wpX_mono {Q' : α → Store → Prop} {E E' : Str → PV → Store → Prop} {o : Out α} (h : wpX o Q E) (i : ∀ a st, Q a st → Q' a st) (j : ∀ c v st, E c v st → E' c v st) : wpX o Q' E' := by
  cases o with
  | ok a st => exact i a st h
  | exc => exact j _ _ _ h
  | bad => exact h
theorem wpX_of_wp {o : Out α} {E : Str → PV → Store → Prop} (h : wpO o Q) : wpX o Q E := by
  cases o with
  | ok a st => exact h
  | exc => exact h.elim
  | bad => exact h
@[simp] theorem wp_lift (o : Out β) (env : Env) (f : β → Store → Out Fl) (Q : Fl → Store → Prop) : wpO (o.lift env f) Q = wpX o (fun a st => wpO (f a st) Q) (fun c v st => Q (.rz c v env) st) := by cases o <;> rfl
theorem wp_lift_of {o : Out β} {env : Env} {f : β → Store → Out Fl} {Q : Fl → Store → Prop} (h : wpO o fun a st => wpO (f a st) Q) : wpO (o.lift env f) Q := by
  rw [wp_lift]
  exact wpX_of_wp h
@[simp] theorem ok_lift {a : β} {st : Store} {env : Env} {f : β → Store → Out Fl} : (Out.ok a st).lift env f = f a st := rfl
@[simp] theorem exc_lift {c : Str} {v : PV} {st : Store} {env : Env} {f : β → Store → Out Fl} : (Out.exc c v st : Out β).lift env f = .ok (.rz c v env) st := rfl
@[simp] theorem bad_lift {env : Env} {f : β → Store → Out Fl} : (Out.bad : Out β).lift env f = .bad := rfl
@[simp] theorem exc_bind {c : Str} {v : PV} {st : Store} {f : β → Store → Out α} : (Out.exc c v st : Out β).bind f = .exc c v st := rfl
@[simp] theorem ok_bind {a : β} {st : Store} {f : β → Store → Out α} : (Out.ok a st).bind f = f a st := rfl
@[simp] theorem bad_bind {f : β → Store → Out α} : (Out.bad).bind f = .bad := rfl
end
@[simp] theorem watch_nil (st : Store) : watchOk [] st := fun p h => absurd h (by simp)
theorem watch_one {i : Nat} {xs : List PV} {st : Store} (h : st[i]? = some xs) : watchOk [(i, xs)] st := fun p hp => by
  rw [List.mem_singleton] at hp; subst hp; exact h

/-! ### loops -/
theorem wp_loop {w : Watch} {f : PV → Env → Store → Out Fl} {Q : Fl → Store → Prop} (I : List PV → Env → Store → Prop)
    (turn : ∀ x xs env st, I (x :: xs) env st → watchOk w st ∧ wpO (f x env st) fun r st1 => match r with
      | .nx e => I xs e st1
      | .ct e => I xs e st1
      | .bk e => Q (.nx e) st1
      | .rt v => Q (.rt v) st1
      | .rz c v e => Q (.rz c v e) st1)
    (stop : ∀ env st, I [] env st → watchOk w st ∧ Q (.nx env) st) : ∀ (xs : List PV) (env : Env) (st : Store), I xs env st → wpO (loopF w f xs env st) Q := by
  intro xs
  induction xs with
  | nil =>
    intro env st h
    obtain ⟨h1, h2⟩ := stop env st h
    unfold loopF
    rw [if_pos h1]
    exact h2
  | cons x xs ih =>
    intro env st h
    obtain ⟨h1, h2⟩ := turn x xs env st h
    unfold loopF
    rw [if_pos h1, wp_bind]
    refine wp_mono h2 fun r st1 q => ?_
    cases r with
    | nx e => exact ih e st1 q
    | ct e => exact ih e st1 q
    | bk e => exact q
    | rt v => exact q
    | rz => exact q
/-- over the images of a list -/
theorem wp_loopM {α : Type} {g : α → PV} {w : Watch} {f : PV → Env → Store → Out Fl} {Q : Fl → Store → Prop} (I : List α → Env → Store → Prop)
    (turn : ∀ x xs env st, I (x :: xs) env st → watchOk w st ∧ wpO (f (g x) env st) fun r st1 => match r with
      | .nx e => I xs e st1
      | .ct e => I xs e st1
      | .bk e => Q (.nx e) st1
      | .rt v => Q (.rt v) st1
      | .rz c v e => Q (.rz c v e) st1)
    (stop : ∀ env st, I [] env st → watchOk w st ∧ Q (.nx env) st) : ∀ (xs : List α) (env : Env) (st : Store), I xs env st → wpO (loopF w f (xs.map g) env st) Q := by
  intro xs
  induction xs with
  | nil =>
    intro env st h
    obtain ⟨h1, h2⟩ := stop env st h
    unfold List.map loopF
    rw [if_pos h1]
    exact h2
  | cons x xs ih =>
    intro env st h
    obtain ⟨h1, h2⟩ := turn x xs env st h
    rw [List.map_cons]
    unfold loopF
    rw [if_pos h1, wp_bind]
    refine wp_mono h2 fun r st1 q => ?_
    cases r with
    | nx e => exact ih e st1 q
    | ct e => exact ih e st1 q
    | bk e => exact q
    | rt v => exact q
    | rz => exact q
/-- over a range -/
theorem wp_rng {lo c : Int} {n : Nat} {f : PV → Env → Store → Out Fl} {Q : Fl → Store → Prop} (I : Nat → Env → Store → Prop)
    (turn : ∀ i env st, i < n → I i env st → wpO (f (.int (lo + (i : Nat) * c)) env st) fun r st1 => match r with
      | .nx e => I (i + 1) e st1
      | .ct e => I (i + 1) e st1
      | .bk e => Q (.nx e) st1
      | .rt v => Q (.rt v) st1
      | .rz c v e => Q (.rz c v e) st1)
    (stop : ∀ env st, I n env st → Q (.nx env) st) (env : Env) (st : Store) (h : I 0 env st) : wpO (loopF [] f (rngL lo c n) env st) Q := by
  refine wp_loopM (g := fun i : Nat => PV.int (lo + (i : Nat) * c)) (fun l env st => ∃ i, l = (List.range n).drop i ∧ i ≤ n ∧ I i env st) ?_ ?_ (List.range n) env st ⟨0, rfl, Nat.zero_le _, h⟩
  · rintro x xs env st ⟨i, hl, hi, hI⟩
    have hlt : i < n := by
      rcases Nat.lt_or_ge i n with z | z
      · exact z
      · rw [List.drop_eq_nil_of_le (by rw [List.length_range]; exact z)] at hl; cases hl
    rw [List.drop_eq_getElem_cons (by rw [List.length_range]; exact hlt), List.getElem_range] at hl
    obtain ⟨hx, hxs⟩ := List.cons.inj hl
    refine ⟨fun p hp => absurd hp (by simp), ?_⟩
    rw [hx]
    refine wp_mono (turn i env st hlt hI) fun r st1 q => ?_
    cases r with
    | nx e => exact ⟨i + 1, hxs, hlt, q⟩
    | ct e => exact ⟨i + 1, hxs, hlt, q⟩
    | bk e => exact q
    | rt v => exact q
    | rz => exact q
  · rintro env st ⟨i, hl, hi, hI⟩
    have : i = n := by
      have := congrArg List.length hl
      rw [List.length_drop, List.length_range, List.length_nil] at this
      omega
    subst this
    exact ⟨fun p hp => absurd hp (by simp), stop env st hI⟩
/-- a while, by a bound on its turns -/
theorem wp_while {c : Env → Store → Out Bool} {f : Env → Store → Out Fl} {Q : Fl → Store → Prop} (I : Nat → Env → Store → Prop)
    (turn : ∀ m env st, I m env st → wpO (c env st) fun t st1 => if t = true then wpO (f env st1) fun r st2 => match r with
      | .nx e => ∃ m', m' < m ∧ I m' e st2
      | .ct e => ∃ m', m' < m ∧ I m' e st2
      | .bk e => Q (.nx e) st2
      | .rt v => Q (.rt v) st2
      | .rz c v e => Q (.rz c v e) st2 else Q (.nx env) st1) : ∀ (n m : Nat) (env : Env) (st : Store), m < n → I m env st → wpO (whN c f n env st) Q := by
  intro n
  induction n with
  | zero => intro m env st h; omega
  | succ n ih =>
    intro m env st h hI
    unfold whN
    refine wp_lift_of (wp_mono (turn m env st hI) fun t st1 q => ?_)
    cases t with
    | false => rw [if_neg Bool.false_ne_true] at q ⊢; exact q
    | true =>
      rw [if_pos rfl] at q ⊢
      rw [wp_bind]
      refine wp_mono q fun r st2 q => ?_
      cases r with
      | nx e => obtain ⟨m', h1, h2⟩ := q; exact ih m' e st2 (by omega) h2
      | ct e => obtain ⟨m', h1, h2⟩ := q; exact ih m' e st2 (by omega) h2
      | bk e => exact q
      | rt v => exact q
      | rz => exact q

/-! ### comprehensions whose parts only look -/
theorem comp_eq {α : Type} {g : α → PV} {w : Watch} {f : PV → Store → Out (List PV)} {st : Store} (hw : watchOk w st) {out : α → List PV} : ∀ (xs : List α) (acc : List PV),
    (∀ x ∈ xs, f (g x) st = .ok (out x) st) → acc.length + (xs.flatMap out).length ≤ sizeLine → compF w f (xs.map g) acc st = .ok (acc ++ xs.flatMap out) st := by
  intro xs
  induction xs with
  | nil =>
    intro acc h hl
    simp [compF, hw]
  | cons x xs ih =>
    intro acc h hl
    rw [List.map_cons]
    unfold compF
    rw [if_pos hw, h x List.mem_cons_self]
    rw [List.flatMap_cons, List.length_append] at hl
    simp only [ok_bind]
    rw [if_pos (by omega), ih (acc ++ out x) (fun y hy => h y (List.mem_cons_of_mem _ hy)) (by rw [List.length_append]; omega), List.flatMap_cons, List.append_assoc]
theorem flatMap_ite {α : Type} (p : α → Bool) (o : α → PV) : ∀ xs : List α, (xs.flatMap fun x => if p x = true then [o x] else []) = (xs.filter p).map o
  | [] => rfl
  | x :: xs => by
    rw [List.flatMap_cons, flatMap_ite p o xs, List.filter_cons]
    cases p x <;> rfl
/-- one test, one item a turn -/
theorem comp_if {α : Type} {g : α → PV} {w : Watch} {f : PV → Store → Out (List PV)} {st : Store} (p : α → Bool) (o : α → PV) (xs : List α) (hw : watchOk w st)
    (h : ∀ x ∈ xs, f (g x) st = .ok (if p x = true then [o x] else []) st) (hl : xs.length ≤ sizeLine) : compF w f (xs.map g) [] st = .ok ((xs.filter p).map o) st := by
  rw [comp_eq (out := fun x => if p x = true then [o x] else []) hw xs [] h, flatMap_ite, List.nil_append]
  rw [flatMap_ite, List.length_map]
  exact Nat.le_trans (by simpa using List.length_filter_le p xs) hl
theorem flatMap_one {α : Type} (o : α → PV) : ∀ xs : List α, (xs.flatMap fun x => [o x]) = xs.map o
  | [] => rfl
  | x :: xs => by rw [List.flatMap_cons, flatMap_one o xs]; rfl
/-- one item a turn -/
theorem comp_map {α : Type} {g : α → PV} {w : Watch} {f : PV → Store → Out (List PV)} {st : Store} (o : α → PV) (xs : List α) (hw : watchOk w st)
    (h : ∀ x ∈ xs, f (g x) st = .ok [o x] st) (hl : xs.length ≤ sizeLine) : compF w f (xs.map g) [] st = .ok (xs.map o) st := by
  have e : xs.flatMap (fun x => [o x]) = xs.map o := flatMap_one o xs
  rw [comp_eq (out := fun x => [o x]) hw xs [] h (by rw [e, List.length_map, List.length_nil]; omega), e, List.nil_append]

/-! ### calls -/
theorem locs_free : ∀ {args : List PV}, freeAll args = true → locs args = []
  | [], _ => rfl
  | .loc i :: r, h => by simp [freeAll, PV.free] at h
  | .non :: r, h => by simp [freeAll, PV.free] at h; exact locs_free (args := r) h
  | .bl _ :: r, h => by simp [freeAll, PV.free] at h; exact locs_free (args := r) h
  | .int _ :: r, h => by simp [freeAll, PV.free] at h; exact locs_free (args := r) h
  | .str _ :: r, h => by simp [freeAll, PV.free] at h; exact locs_free (args := r) h
  | .tup _ :: r, h => by simp [freeAll] at h; exact locs_free (args := r) h.2
  | .lsv _ :: r, h => by simp [freeAll] at h; exact locs_free (args := r) h.2
  | .exn .. :: r, h => by simp [freeAll] at h; exact locs_free (args := r) h.2
theorem ok_free : ∀ {args : List PV}, freeAll args = true → args.all argOk = true
  | [], _ => rfl
  | x :: r, h => by
    simp only [freeAll, Bool.and_eq_true] at h
    rw [List.all_cons, ok_free h.2, Bool.and_true]
    cases x <;> first | rfl | exact h.1
theorem ren_frees {ls : List Nat} : ∀ {args : List PV}, freeAll args = true → args.map (ren ls) = args
  | [], _ => rfl
  | x :: r, h => by
    simp only [freeAll, Bool.and_eq_true] at h
    rw [List.map_cons, ren_frees h.2, ren_free h.1]
theorem frz_free {m : Nat} {s : Store} {k : Nat} {v : PV} (h : v.free = true) : frz m s k v = some v := by
  cases k <;> (unfold frz; rw [if_pos h])
def env0 (fn : Fn) (args : List PV) : Env := args.map some ++ List.replicate (fn.N.length - args.length) none
/-- a def that is handed nothing to write -/
theorem wp_fn {g : Sg} {cl : Str → Nat} {n : Nat} {f : Str} {fn : Fn} {args : List PV} {st : Store} {Q : PV → Store → Prop} (hl : g.tb.lookup f = some fn) (hm : fn.mt = false) (ha : args.length = fn.ps.length) (hf : freeAll args = true)
    (h : wpO (evSs (g.ctx cl n) fn.body (env0 fn args) []) fun r s2 => match r with
      | .rt v => ∃ v', frz 0 s2 64 v = some v' ∧ Q v' st
      | .nx _ => Q .non st
      | _ => False) : wpO ((g.ctx cl (n + 1)).fn f args st) Q := by
  show wpO (callF cl g.ecs g.tb (fun x => g.gl.lookup x) (n + 1) f args st) Q
  rw [callF_succ, hl]
  dsimp only
  rw [if_pos ⟨ha, ok_free hf⟩, locs_free hf, ren_frees hf]
  dsimp only [subSt]
  have fin : ∀ (v v' : PV) (s2 : Store), frz 0 s2 64 v = some v' → Q v' st → wpO (backV fn.mt [] st v s2) Q := fun v v' s2 e q => by
    unfold backV
    dsimp only
    have e2 : flatSt (s2.take ([] : List Nat).length) = true := by rw [List.length_nil, List.take_zero]; rfl
    rw [if_pos ⟨Nat.zero_le _, e2⟩, if_neg (by rw [hm]; exact Bool.false_ne_true)]
    have e3 : frz ([] : List Nat).length s2 64 v = some v' := e
    rw [e3]
    show Q v' (putSt st [] (s2.take 0))
    rw [List.take_zero]
    exact q
  obtain ⟨r, s2, e, q⟩ := wp_get h
  have hrun : runB ⟨callF cl g.ecs g.tb (fun x => g.gl.lookup x) n, fun x => g.gl.lookup x, cl, g.ecs⟩ fn args [] = (evSs (g.ctx cl n) fn.body (env0 fn args) []).quiet.bind fun f st1 => match f with
    | .rt v => .ok v st1
    | .nx _ => .ok .non st1
    | .rz c v _ => .exc c v st1
    | _ => .bad := rfl
  rw [hrun, e]
  cases r with
  | rt v => obtain ⟨v', e1, q⟩ := q; exact fin v v' s2 e1 q
  | nx en => exact fin .non .non s2 rfl q
  | bk en => exact q.elim
  | ct en => exact q.elim
  | rz => exact q.elim
/-- the same as an equation -/
theorem fn_eq {g : Sg} {cl : Str → Nat} {n : Nat} {f : Str} {fn : Fn} {args : List PV} {st : Store} {v : PV} (hl : g.tb.lookup f = some fn) (hm : fn.mt = false) (ha : args.length = fn.ps.length) (hf : freeAll args = true)
    (h : wpO (evSs (g.ctx cl n) fn.body (env0 fn args) []) fun r s2 => match r with
      | .rt u => frz 0 s2 64 u = some v
      | .nx _ => .non = v
      | _ => False) : (g.ctx cl (n + 1)).fn f args st = .ok v st := by
  obtain ⟨a, s, e, e1, e2⟩ := wp_get (wp_fn (Q := fun u s => u = v ∧ s = st) (st := st) hl hm ha hf (wp_mono h fun r s2 q => by
    cases r with
    | rt u => exact ⟨v, q, rfl, rfl⟩
    | nx en => exact ⟨q, rfl⟩
    | bk en => exact q
    | ct en => exact q
    | rz => exact q))
  rw [e, e1, e2]
/-- a def that is handed one list to write, as its first argument -/
theorem wp_fn1 {g : Sg} {cl : Str → Nat} {n : Nat} {f : Str} {fn : Fn} {i : Nat} {xs : List PV} {args : List PV} {st : Store} {Q : PV → Store → Prop} (hl : g.tb.lookup f = some fn) (hm : fn.mt = false) (ha : args.length + 1 = fn.ps.length) (hf : freeAll args = true)
    (hi : st[i]? = some xs) (hx : freeAll xs = true)
    (h : wpO (evSs (g.ctx cl n) fn.body (env0 fn (.loc 0 :: args)) [xs]) fun r s2 => ∃ ys, s2[0]? = some ys ∧ freeAll ys = true ∧ match r with
      | .rt v => ∃ v', frz 1 s2 64 v = some v' ∧ Q v' (st.set i ys)
      | .nx _ => Q .non (st.set i ys)
      | _ => False) : wpO ((g.ctx cl (n + 1)).fn f (.loc i :: args) st) Q := by
  show wpO (callF cl g.ecs g.tb (fun x => g.gl.lookup x) (n + 1) f (.loc i :: args) st) Q
  have el : locs (.loc i :: args) = [i] := by
    unfold locs
    rw [locs_free hf]
    rfl
  have er : (PV.loc i :: args).map (ren [i]) = .loc 0 :: args := by
    rw [List.map_cons, ren_frees hf]
    simp [ren]
  have es : subSt st [i] = some [xs] := by
    simp [subSt, hi, hx]
  rw [callF_succ, hl]
  dsimp only
  rw [if_pos ⟨by simpa using ha, by rw [List.all_cons, ok_free hf]; rfl⟩, el, er, es]
  dsimp only
  have fin : ∀ (v v' : PV) (s2 : Store) (ys : List PV), s2[0]? = some ys → freeAll ys = true → frz 1 s2 64 v = some v' → Q v' (st.set i ys) → wpO (backV fn.mt [i] st v s2) Q := fun v v' s2 ys e1 e2 e q => by
    unfold backV
    dsimp only
    have e3 : s2.take ([i] : List Nat).length = [ys] := by
      match s2, e1 with
      | y :: r, e1 => simp at e1; subst e1; rfl
    have e4 : 1 ≤ s2.length := (List.getElem?_eq_some_iff.mp e1).1
    rw [e3, if_pos ⟨e4, by simp [flatSt, e2]⟩, if_neg (by rw [hm]; exact Bool.false_ne_true)]
    have e5 : frz ([i] : List Nat).length s2 64 v = some v' := e
    rw [e5]
    exact q
  obtain ⟨r, s2, e, ys, e1, e2, q⟩ := wp_get h
  have hrun : runB ⟨callF cl g.ecs g.tb (fun x => g.gl.lookup x) n, fun x => g.gl.lookup x, cl, g.ecs⟩ fn (.loc 0 :: args) [xs] = (evSs (g.ctx cl n) fn.body (env0 fn (.loc 0 :: args)) [xs]).quiet.bind fun f st1 => match f with
    | .rt v => .ok v st1
    | .nx _ => .ok .non st1
    | .rz c v _ => .exc c v st1
    | _ => .bad := rfl
  rw [hrun, e]
  cases r with
  | rt v => obtain ⟨v', e3, q⟩ := q; exact fin v v' s2 ys e1 e2 e3 q
  | nx en => exact fin .non .non s2 ys e1 e2 rfl q
  | bk en => exact q.elim
  | ct en => exact q.elim
  | rz => exact q.elim
/-- a def that hands back a list to be written, itself handed none -/
theorem wp_fnM {g : Sg} {cl : Str → Nat} {n : Nat} {f : Str} {fn : Fn} {args : List PV} {st : Store} {Q : PV → Store → Prop} (hl : g.tb.lookup f = some fn) (hm : fn.mt = true) (ha : args.length = fn.ps.length) (hf : freeAll args = true)
    (h : wpO (evSs (g.ctx cl n) fn.body (env0 fn args) []) fun r s2 => match r with
      | .rt (.loc j) => ∃ xs, s2[j]? = some xs ∧ freeAll xs = true ∧ Q (.loc st.length) (st ++ [xs])
      | _ => False) : wpO ((g.ctx cl (n + 1)).fn f args st) Q := by
  show wpO (callF cl g.ecs g.tb (fun x => g.gl.lookup x) (n + 1) f args st) Q
  rw [callF_succ, hl]
  dsimp only
  rw [if_pos ⟨ha, ok_free hf⟩, locs_free hf, ren_frees hf]
  dsimp only [subSt]
  obtain ⟨r, s2, e, q⟩ := wp_get h
  have hrun : runB ⟨callF cl g.ecs g.tb (fun x => g.gl.lookup x) n, fun x => g.gl.lookup x, cl, g.ecs⟩ fn args [] = (evSs (g.ctx cl n) fn.body (env0 fn args) []).quiet.bind fun f st1 => match f with
    | .rt v => .ok v st1
    | .nx _ => .ok .non st1
    | .rz c v _ => .exc c v st1
    | _ => .bad := rfl
  rw [hrun, e]
  cases r with
  | rt v =>
    cases v with
    | loc j =>
      obtain ⟨xs, e1, e2, q⟩ := q
      show wpO (backV fn.mt [] st (.loc j) s2) Q
      unfold backV
      dsimp only
      have e3 : flatSt (s2.take ([] : List Nat).length) = true := by rw [List.length_nil, List.take_zero]; rfl
      rw [if_pos ⟨Nat.zero_le _, e3⟩, if_pos hm]
      rw [e1]
      dsimp only
      rw [if_pos ⟨Nat.zero_le _, e2⟩]
      show Q (.loc (putSt st [] (s2.take 0)).length) (putSt st [] (s2.take 0) ++ [xs])
      rw [List.take_zero]
      exact q
    | _ => exact q.elim
  | nx en => exact q.elim
  | bk en => exact q.elim
  | ct en => exact q.elim
  | rz => exact q.elim

/-! ### one step of the evaluator -/
@[simp] theorem kit_NoneType_int : L2.kitB "NoneType" "int" = some false := by decide +kernel
@[simp] theorem kit_NoneType_bool : L2.kitB "NoneType" "bool" = some false := by decide +kernel
@[simp] theorem kit_NoneType_str : L2.kitB "NoneType" "str" = some false := by decide +kernel
@[simp] theorem kit_NoneType_tuple : L2.kitB "NoneType" "tuple" = some false := by decide +kernel
@[simp] theorem kit_NoneType_list : L2.kitB "NoneType" "list" = some false := by decide +kernel
@[simp] theorem kit_bool_int : L2.kitB "bool" "int" = some true := by decide +kernel
@[simp] theorem kit_bool_bool : L2.kitB "bool" "bool" = some true := by decide +kernel
@[simp] theorem kit_bool_str : L2.kitB "bool" "str" = some false := by decide +kernel
@[simp] theorem kit_bool_tuple : L2.kitB "bool" "tuple" = some false := by decide +kernel
@[simp] theorem kit_bool_list : L2.kitB "bool" "list" = some false := by decide +kernel
@[simp] theorem kit_int_int : L2.kitB "int" "int" = some true := by decide +kernel
@[simp] theorem kit_int_bool : L2.kitB "int" "bool" = some false := by decide +kernel
@[simp] theorem kit_int_str : L2.kitB "int" "str" = some false := by decide +kernel
@[simp] theorem kit_int_tuple : L2.kitB "int" "tuple" = some false := by decide +kernel
@[simp] theorem kit_int_list : L2.kitB "int" "list" = some false := by decide +kernel
@[simp] theorem kit_str_int : L2.kitB "str" "int" = some false := by decide +kernel
@[simp] theorem kit_str_bool : L2.kitB "str" "bool" = some false := by decide +kernel
@[simp] theorem kit_str_str : L2.kitB "str" "str" = some true := by decide +kernel
@[simp] theorem kit_str_tuple : L2.kitB "str" "tuple" = some false := by decide +kernel
@[simp] theorem kit_str_list : L2.kitB "str" "list" = some false := by decide +kernel
@[simp] theorem kit_tuple_int : L2.kitB "tuple" "int" = some false := by decide +kernel
@[simp] theorem kit_tuple_bool : L2.kitB "tuple" "bool" = some false := by decide +kernel
@[simp] theorem kit_tuple_str : L2.kitB "tuple" "str" = some false := by decide +kernel
@[simp] theorem kit_tuple_tuple : L2.kitB "tuple" "tuple" = some true := by decide +kernel
@[simp] theorem kit_tuple_list : L2.kitB "tuple" "list" = some false := by decide +kernel
@[simp] theorem kit_list_int : L2.kitB "list" "int" = some false := by decide +kernel
@[simp] theorem kit_list_bool : L2.kitB "list" "bool" = some false := by decide +kernel
@[simp] theorem kit_list_str : L2.kitB "list" "str" = some false := by decide +kernel
@[simp] theorem kit_list_tuple : L2.kitB "list" "tuple" = some false := by decide +kernel
@[simp] theorem kit_list_list : L2.kitB "list" "list" = some true := by decide +kernel
theorem in62_ok {i : Int} (h0 : -1000000000 ≤ i) (h1 : i ≤ 1000000000) : in62 i := ⟨by omega, by omega⟩
theorem in60_ok {i : Int} (h0 : -1000000000 ≤ i) (h1 : i ≤ 1000000000) : in60 i := ⟨by omega, by omega⟩
theorem rng1_ok {j : Int} {st : Store} (h0 : -1000000000 ≤ j) (h1 : j ≤ 1000000000) : rngV1 st (.int j) = .ok (rngL 0 1 j.toNat, []) st := if_pos (in62_ok h0 h1)
theorem rng2_ok {i j : Int} {st : Store} (h0 : -1000000000 ≤ i) (h1 : i ≤ 1000000000) (h2 : -1000000000 ≤ j) (h3 : j ≤ 1000000000) : rngV2 st (.int i) (.int j) = .ok (rngL i 1 (j - i).toNat, []) st := if_pos ⟨in62_ok h0 h1, in62_ok h2 h3⟩
theorem rng3_ok {i j : Int} {st : Store} (h0 : -1000000000 ≤ i) (h1 : i ≤ 1000000000) (h2 : -1000000000 ≤ j) (h3 : j ≤ 1000000000) : rngV3 (-1) st (.int i) (.int j) = .ok (rngL i (-1) (i - j).toNat, []) st := if_pos ⟨rfl, in60_ok h0 h1, in60_ok h2 h3⟩
section
variable {C : Ctx} {env : Env} {st : Store}
@[simp] theorem r_c (v : PV) : evE C (.c v) env st = Out.ok v st := by
  first | rfl | (simp only [evE]; done) | (rw [evE]; all_goals (intro z; cases z))
@[simp] theorem r_v (i : Nat) : evE C (.v i) env st = (match env[i]? with
    | some (some v) => Out.ok v st
    | _ => .bad) := by
  first | rfl | (simp only [evE]; done) | (rw [evE]; all_goals (intro z; cases z))
@[simp] theorem r_g (x : Str) : evE C (.g x) env st = Out.of (C.gl x) st := by
  first | rfl | (simp only [evE]; done) | (rw [evE]; all_goals (intro z; cases z))
@[simp] theorem r_bin (o : Bop) (fr : Bool) (a b : Ex) : evE C (.bin o fr a b) env st = (evE C a env st).bind fun x st1 => (evE C b env st1).bind fun y st2 => binV o fr st2 x y := by
  first | rfl | (simp only [evE]; done) | (rw [evE]; all_goals (intro z; cases z))
@[simp] theorem r_neg (a : Ex) : evE C (.neg a) env st = (evE C a env st).bind fun x st1 => match x with
    | .int i => .ok (.int (-i)) st1
    | _ => .bad := by
  first | rfl | (simp only [evE]; done) | (rw [evE]; all_goals (intro z; cases z))
@[simp] theorem r_nt (a : Ex) : evE C (.nt a) env st = (evE C a env st).bind fun x st1 => match Iv.truthy st1 x with
    | some b => .ok (.bl (!b)) st1
    | none => .bad := by
  first | rfl | (simp only [evE]; done) | (rw [evE]; all_goals (intro z; cases z))
@[simp] theorem r_cmp (o : Cop) (a b : Ex) : evE C (.cmp o a b) env st = (evE C a env st).bind fun x st1 => (evE C b env st1).bind fun y st2 => (Out.of (cmpV o st2 x y) st2).bind fun b st3 => .ok (.bl b) st3 := by
  first | rfl | (simp only [evE]; done) | (rw [evE]; all_goals (intro z; cases z))
@[simp] theorem r_chn (o o2 : Cop) (a b c : Ex) : evE C (.chn o o2 a b c) env st = (evE C a env st).bind fun x st1 => (evE C b env st1).bind fun y st2 => (Out.of (cmpV o st2 x y) st2).bind fun k st3 =>
      if k = true then (evE C c env st3).bind fun z st4 => (Out.of (cmpV o2 st4 y z) st4).bind fun b st5 => .ok (.bl b) st5 else .ok (.bl false) st3 := by
  first | rfl | (simp only [evE]; done) | (rw [evE]; all_goals (intro z; cases z))
@[simp] theorem r_ands (es : Exs) : evE C (.ands es) env st = evAnd C es env st := by
  first | rfl | (simp only [evE]; done) | (rw [evE]; all_goals (intro z; cases z))
@[simp] theorem r_ors (es : Exs) : evE C (.ors es) env st = evOr C es env st := by
  first | rfl | (simp only [evE]; done) | (rw [evE]; all_goals (intro z; cases z))
@[simp] theorem r_ite (c a b : Ex) : evE C (.ite c a b) env st = (evE C c env st).bind fun x st1 => match Iv.truthy st1 x with
    | some true => evE C a env st1
    | some false => evE C b env st1
    | none => .bad := by
  first | rfl | (simp only [evE]; done) | (rw [evE]; all_goals (intro z; cases z))
@[simp] theorem r_tup (es : Exs) : evE C (.tup es) env st = (evEs C es env st).bind fun xs st1 => if xs.length ≤ sizeLine then .ok (.tup xs) st1 else .bad := by
  first | rfl | (simp only [evE]; done) | (rw [evE]; all_goals (intro z; cases z))
@[simp] theorem r_lst (fr : Bool) (es : Exs) : evE C (.lst fr es) env st = (evEs C es env st).bind fun xs st1 => if xs.length ≤ sizeLine then newL fr xs st1 else .bad := by
  first | rfl | (simp only [evE]; done) | (rw [evE]; all_goals (intro z; cases z))
@[simp] theorem r_ix (a b : Ex) : evE C (.ix a b) env st = (evE C a env st).bind fun x st1 => (evE C b env st1).bind fun y st2 => .of (ixV st2 x y) st2 := by
  first | rfl | (simp only [evE]; done) | (rw [evE]; all_goals (intro z; cases z))
@[simp] theorem r_slA (fr : Bool) (a lo hi : Ex) : evE C (.slA fr a lo hi) env st = (evE C a env st).bind fun x st1 => (evE C lo env st1).bind fun y st2 => match y with
    | .int i => (evE C hi env st2).bind fun z st3 => match z with
      | .int j => slV fr st3 x (some i) (some j)
      | _ => .bad
    | _ => .bad := by
  first | rfl | (simp only [evE]; done) | (rw [evE]; all_goals (intro z; cases z))
@[simp] theorem r_slF (fr : Bool) (a lo : Ex) : evE C (.slF fr a lo) env st = (evE C a env st).bind fun x st1 => (evE C lo env st1).bind fun y st2 => match y with
    | .int i => slV fr st2 x (some i) none
    | _ => .bad := by
  first | rfl | (simp only [evE]; done) | (rw [evE]; all_goals (intro z; cases z))
@[simp] theorem r_slT (fr : Bool) (a hi : Ex) : evE C (.slT fr a hi) env st = (evE C a env st).bind fun x st1 => (evE C hi env st1).bind fun y st2 => match y with
    | .int i => slV fr st2 x none (some i)
    | _ => .bad := by
  first | rfl | (simp only [evE]; done) | (rw [evE]; all_goals (intro z; cases z))
@[simp] theorem r_call (f : Str) (es : Exs) : evE C (.call f es) env st = (evEs C es env st).bind fun xs st1 => C.fn f xs st1 := by
  first | rfl | (simp only [evE]; done) | (rw [evE]; all_goals (intro z; cases z))
@[simp] theorem r_callk (f : Str) (es ks : Exs) (perm : List Nat) : evE C (.callk f es ks perm) env st = (evEs C es env st).bind fun xs st1 => (evEs C ks env st1).bind fun ys st2 => match perm.mapM fun i => (xs ++ ys)[i]? with
    | some zs => C.fn f zs st2
    | none => .bad := by
  first | rfl | (simp only [evE]; done) | (rw [evE]; all_goals (intro z; cases z))
@[simp] theorem r_bi (f : Bi) (fr : Bool) (es : Exs) : evE C (.bi f fr es) env st = (evEs C es env st).bind fun xs st1 => biV f fr st1 xs := by
  first | rfl | (simp only [evE]; done) | (rw [evE]; all_goals (intro z; cases z))
@[simp] theorem r_isi (e : Ex) (T : String) : evE C (.isi e T) env st = (evE C e env st).bind fun x st1 => match (tyOfP x).bind fun U => L2.kitB U T with
    | some b => .ok (.bl b) st1
    | none => .bad := by
  first | rfl | (simp only [evE]; done) | (rw [evE]; all_goals (intro z; cases z))
@[simp] theorem r_slR (fr : Bool) (a : Ex) : evE C (.slR fr a) env st = (evE C a env st).bind fun x st1 => backE fr st1 x := by
  first | rfl | (simp only [evE]; done) | (rw [evE]; all_goals (intro z; cases z))
@[simp] theorem r_slN (fr : Bool) (a : Ex) : evE C (.slN fr a) env st = (evE C a env st).bind fun x st1 => backN fr st1 x := by
  first | rfl | (simp only [evE]; done) | (rw [evE]; all_goals (intro z; cases z))
@[simp] theorem r_srt (fr : Bool) (own : List Nat) (p : Pt) (it : Ix) (e : Ex) : evE C (.srt fr own p it e) env st = (evIx C it env st).bind fun xw st1 => (compF xw.2 (fun x st => match asgP p x (wipeE env own) with
      | some env1 => (evE C e env1 st).quiet.bind fun y st2 => match y with
        | .int i => .ok [.int i] st2
        | _ => .bad
      | none => .bad) xw.1 [] st1).bind fun ys st2 => match intsOf ys with
        | some ns => newL fr ((sortD ns).map .int) st2
        | none => .bad := by
  first | rfl | (simp only [evE]; done) | (rw [evE]; all_goals (intro z; cases z))
@[simp] theorem r_fld (i : Nat) : evE C (.fld i) env st = (match env[i]? with
    | some (some (.exn c D v)) => if D = C.cl c ∧ (C.ec.lookup c).isSome = true then .ok v st else .bad
    | _ => .bad) := by
  first | rfl | (simp only [evE]; done) | (rw [evE]; all_goals (intro z; cases z))
@[simp] theorem r_ise (e : Ex) (c : Str) : evE C (.ise e c) env st = (evE C e env st).bind fun x st1 => match iseV C c x with
    | some b => .ok (.bl b) st1
    | none => .bad := by
  first | rfl | (simp only [evE]; done) | (rw [evE]; all_goals (intro z; cases z))
@[simp] theorem r_me (m : Me) (i : Nat) (es : Exs) : evE C (.me m i es) env st = (match env[i]? with
    | some (some (.loc l)) => (evEs C es env st).bind fun ys st2 => meV m st2 l ys
    | _ => .bad) := by
  first | rfl | (simp only [evE]; done) | (rw [evE]; all_goals (intro z; cases z))
@[simp] theorem r_lc (fr : Bool) (own : List Nat) (p : Pt) (it : Ix) (cs : Exs) (e : Ex) : evE C (.lc fr own p it cs e) env st = (evIx C it env st).bind fun xw st1 => (compF xw.2 (fun x st => match asgP p x (wipeE env own) with
      | some env1 => (evTests C cs env1 st).quiet.bind fun b st1 => if b = true then (evE C e env1 st1).quiet.bind fun y st2 => .ok [y] st2 else .ok [] st1
      | none => .bad) xw.1 [] st1).bind fun ys st2 => newL fr ys st2 := by
  first | rfl | (simp only [evE]; done) | (rw [evE]; all_goals (intro z; cases z))
@[simp] theorem r_es0  : evEs C .nil env st = Out.ok [] st := by
  first | rfl | (simp only [evEs]; done) | (rw [evEs]; all_goals (intro z; cases z))
@[simp] theorem r_es1 (e : Ex) (es : Exs) : evEs C (.cons e es) env st = (evE C e env st).bind fun x st1 => (evEs C es env st1).bind fun xs st2 => .ok (x :: xs) st2 := by
  first | rfl | (simp only [evEs]; done) | (rw [evEs]; all_goals (intro z; cases z))
@[simp] theorem r_and1 (e : Ex) : evAnd C (.cons e .nil) env st = evE C e env st := by
  first | rfl | (simp only [evAnd]; done) | (rw [evAnd]; all_goals (intro z; cases z))
@[simp] theorem r_and2 (e e2 : Ex) (es : Exs) : evAnd C (.cons e (.cons e2 es)) env st = (evE C e env st).bind fun x st1 => match Iv.truthy st1 x with
    | some true => evAnd C (.cons e2 es) env st1
    | some false => .ok x st1
    | none => .bad := by
  first | rfl | (simp only [evAnd]; done) | (rw [evAnd]; all_goals (intro z; cases z))
@[simp] theorem r_or1 (e : Ex) : evOr C (.cons e .nil) env st = evE C e env st := by
  first | rfl | (simp only [evOr]; done) | (rw [evOr]; all_goals (intro z; cases z))
@[simp] theorem r_or2 (e e2 : Ex) (es : Exs) : evOr C (.cons e (.cons e2 es)) env st = (evE C e env st).bind fun x st1 => match Iv.truthy st1 x with
    | some true => .ok x st1
    | some false => evOr C (.cons e2 es) env st1
    | none => .bad := by
  first | rfl | (simp only [evOr]; done) | (rw [evOr]; all_goals (intro z; cases z))
@[simp] theorem r_t0  : evTests C .nil env st = Out.ok true st := by
  first | rfl | (simp only [evTests]; done) | (rw [evTests]; all_goals (intro z; cases z))
@[simp] theorem r_t1 (e : Ex) (es : Exs) : evTests C (.cons e es) env st = (evE C e env st).bind fun x st1 => .of (Iv.truthy st1 x) st1 := by
  first | rfl | (simp only [evTests]; done) | (rw [evTests]; all_goals (intro z; cases z))
@[simp] theorem r_val (e : Ex) : evIx C (.val e) env st = (evE C e env st).bind fun x st1 => match seqA st1 x with
    | some xs => .ok (xs, watchOf x xs) st1
    | none => .bad := by
  first | rfl | (simp only [evIx]; done) | (rw [evIx]; all_goals (intro z; cases z))
@[simp] theorem r_rng1 (a : Ex) : evIx C (.rng1 a) env st = (evE C a env st).bind fun x st1 => rngV1 st1 x := by
  first | rfl | (simp only [evIx]; done)
@[simp] theorem r_rng2 (a b : Ex) : evIx C (.rng2 a b) env st = (evE C a env st).bind fun x st1 => (evE C b env st1).bind fun y st2 => rngV2 st2 x y := by
  first | rfl | (simp only [evIx]; done)
@[simp] theorem r_rng3 (a b : Ex) (c : Int) : evIx C (.rng3 a b c) env st = (evE C a env st).bind fun x st1 => (evE C b env st1).bind fun y st2 => rngV3 c st2 x y := by
  first | rfl | (simp only [evIx]; done)
@[simp] theorem r_zip (a b : Ex) : evIx C (.zip a b) env st = (evE C a env st).bind fun x st1 => (evE C b env st1).bind fun y st2 => zipV st2 x y := by
  first | rfl | (simp only [evIx]; done) | (rw [evIx]; all_goals (intro z; cases z))
@[simp] theorem r_enm (a : Ex) : evIx C (.enm a) env st = (evE C a env st).bind fun x st1 => match seqL st1 x with
    | some xs => .ok (xs.zipIdx.map fun p => .tup [.int (p.2 : Nat), p.1], watchOf x xs) st1
    | none => .bad := by
  first | rfl | (simp only [evIx]; done) | (rw [evIx]; all_goals (intro z; cases z))
@[simp] theorem r_sexpr (e : Ex) : evS C (.expr e) env st = (evE C e env st).lift env fun _ st1 => .ok (.nx env) st1 := by
  first | rfl | (simp only [evS]; done) | (rw [evS]; all_goals (intro z; cases z))
@[simp] theorem r_sasg (p : Pt) (e : Ex) : evS C (.asg (.p p) e) env st = (evE C e env st).lift env fun x st1 => match asgP p x env with
    | some env1 => .ok (.nx env1) st1
    | none => .bad := by
  first | rfl | (simp only [evS]; done) | (rw [evS]; all_goals (intro z; cases z))
@[simp] theorem r_ssub (o i e : Ex) : evS C (.asg (.sub o i) e) env st = (evE C e env st).lift env fun x st1 => (evE C o env st1).lift env fun y st2 => (evE C i env st2).lift env fun z st3 => match setV st3 y z x with
    | some st4 => .ok (.nx env) st4
    | none => .bad := by
  first | rfl | (simp only [evS]; done) | (rw [evS]; all_goals (intro z; cases z))
@[simp] theorem r_saug (i : Nat) (o : Bop) (e : Ex) : evS C (.aug i o e) env st = (match env[i]? with
    | some (some v) => (evE C e env st).lift env fun x st1 => match augV o v x with
      | some z => .ok (.nx (env.set i (some z))) st1
      | none => .bad
    | _ => .bad) := by
  first | rfl | (simp only [evS]; done) | (rw [evS]; all_goals (intro z; cases z))
@[simp] theorem r_siff (c : Ex) (a b : Sxs) : evS C (.iff c a b) env st = (evC C c env st).lift env fun t st1 => if t = true then evSs C a env st1 else evSs C b env st1 := by
  first | rfl | (simp only [evS]; done) | (rw [evS]; all_goals (intro z; cases z))
@[simp] theorem r_sfr (p : Pt) (it : Ix) (b : Sxs) : evS C (.fr p it b) env st = (evIx C it env st).lift env fun xw st1 => loopF xw.2 (fun x env st => match asgP p x env with
    | some env1 => evSs C b env1 st
    | none => .bad) xw.1 env st1 := by
  first | rfl | (simp only [evS]; done) | (rw [evS]; all_goals (intro z; cases z))
@[simp] theorem r_swh (c : Ex) (b : Sxs) : evS C (.wh c b) env st = whN (evC C c) (evSs C b) wfuel env st := by
  first | rfl | (simp only [evS]; done) | (rw [evS]; all_goals (intro z; cases z))
@[simp] theorem r_sret (e : Ex) : evS C (.ret e) env st = (evE C e env st).lift env fun x st1 => .ok (.rt x) st1 := by
  first | rfl | (simp only [evS]; done) | (rw [evS]; all_goals (intro z; cases z))
@[simp] theorem r_sretn  : evS C .retn env st = Out.ok (.rt .non) st := by
  first | rfl | (simp only [evS]; done) | (rw [evS]; all_goals (intro z; cases z))
@[simp] theorem r_sbrk  : evS C .brk env st = Out.ok (.bk env) st := by
  first | rfl | (simp only [evS]; done) | (rw [evS]; all_goals (intro z; cases z))
@[simp] theorem r_scont  : evS C .cont env st = Out.ok (.ct env) st := by
  first | rfl | (simp only [evS]; done) | (rw [evS]; all_goals (intro z; cases z))
@[simp] theorem r_spass  : evS C .pass env st = Out.ok (.nx env) st := by
  first | rfl | (simp only [evS]; done) | (rw [evS]; all_goals (intro z; cases z))
@[simp] theorem r_srs (c : Str) (e : Ex) : evS C (.rs c e) env st = (evE C e env st).lift env fun x st1 => if (C.ec.lookup c).isSome = true then .ok (.rz c x env) st1 else .bad := by
  first | rfl | (simp only [evS]; done) | (rw [evS]; all_goals (intro z; cases z))
@[simp] theorem r_str (b : Sxs) (hs : Hds) : evS C (.tr b hs) env st = (evSs C b env st).bind fun f st1 => match f with
    | .rz c v e => evH C hs c v e st1
    | f => .ok f st1 := by
  first | rfl | (simp only [evS]; done) | (rw [evS]; all_goals (intro z; cases z))
@[simp] theorem r_h0 (c : Str) (v : PV) : evH C .nil c v env st = .ok (.rz c v env) st := by
  first | rfl | (simp only [evH]; done)
@[simp] theorem r_h1 (x : Str) (i : Option Nat) (b : Sxs) (r : Hds) (c : Str) (v : PV) : evH C (.cons x i b r) c v env st = match C.sub c x with
    | some true => (evSs C b (inH C i c v env) st).bind fun f st1 => match f with
      | .nx e => .ok (.nx (outH i e)) st1
      | .bk e => .ok (.bk (outH i e)) st1
      | .ct e => .ok (.ct (outH i e)) st1
      | .rt p => .ok (.rt p) st1
      | .rz .. => .bad
    | some false => evH C r c v env st
    | none => .bad := by
  first | rfl | (simp only [evH]; done)
@[simp] theorem r_snev  : evS C .nev env st = Out.bad := by
  first | rfl | (simp only [evS]; done) | (rw [evS]; all_goals (intro z; cases z))
@[simp] theorem r_ss0  : evSs C .nil env st = Out.ok (.nx env) st := by
  first | rfl | (simp only [evSs]; done) | (rw [evSs]; all_goals (intro z; cases z))
theorem r_ss1 (s : Sx) (r : Sxs) : evSs C (.cons s r) env st = (evS C s env st).bind fun f st1 => match f with
    | .nx env1 => evSs C r env1 st1
    | .bk e => .ok (.bk e) st1
    | .ct e => .ok (.ct e) st1
    | .rt v => .ok (.rt v) st1
    | .rz c v e => .ok (.rz c v e) st1 := by
  first | rfl | (simp only [evSs]; done) | (rw [evSs]; all_goals (intro z; cases z))
theorem wp_ss {C : Ctx} {env : Env} {st : Store} {s : Sx} {r : Sxs} {Q : Fl → Store → Prop} : wpO (evSs C (.cons s r) env st) Q = wpO (evS C s env st) fun f st1 => match f with
    | .nx env1 => wpO (evSs C r env1 st1) Q
    | .bk e => Q (.bk e) st1
    | .ct e => Q (.ct e) st1
    | .rt v => Q (.rt v) st1
    | .rz c v e => Q (.rz c v e) st1 := by
  rw [r_ss1, wp_bind]
  congr 1
  funext f st1
  cases f <;> rfl
@[simp] theorem r_C (c : Ex) : evC C c env st = (evE C c env st).bind fun x st1 => .of (Iv.truthy st1 x) st1 := rfl
/-- a try whose body is told -/
theorem wp_try {C : Ctx} {env : Env} {st : Store} {b : Sxs} {hs : Hds} {Q : Fl → Store → Prop} : wpO (evS C (.tr b hs) env st) Q = wpO (evSs C b env st) fun f st1 => match f with
    | .rz c v e => wpO (evH C hs c v e st1) Q
    | f => Q f st1 := by
  rw [r_str, wp_bind]
  congr 1
  funext f st1
  cases f <;> rfl
end
@[simp] theorem tr_bl (st : Store) (b : Bool) : Iv.truthy st (.bl b) = some b := rfl
@[simp] theorem tr_int (st : Store) (i : Int) : Iv.truthy st (.int i) = some (i != 0) := rfl
@[simp] theorem tr_non (st : Store) : Iv.truthy st .non = some false := rfl
@[simp] theorem tr_tup (st : Store) (xs : List PV) : Iv.truthy st (.tup xs) = some (!xs.isEmpty) := rfl
@[simp] theorem tr_lsv (st : Store) (xs : List PV) : Iv.truthy st (.lsv xs) = some (!xs.isEmpty) := rfl
end L2.Iv

/-! IvO: data that == and repr take. Own work. -/
namespace L2.Iv
open PySem

theorem freeAll_all : ∀ xs : List PV, freeAll xs = xs.all PV.free
  | [] => rfl
  | x :: xs => by rw [freeAll, List.all_cons, freeAll_all xs]
theorem toDs_map : ∀ xs : List PV, toDs xs = xs.map PV.toD
  | [] => rfl
  | x :: xs => by rw [toDs, List.map_cons, toDs_map xs]
mutual
/-- of at most n storeys, no list that is written, sound texts -/
def fit (n : Nat) : PV → Bool
  | .loc _ => false
  | .exn .. => false
  | .non => true
  | .bl _ => true
  | .int _ => true
  | .str s => PyData.strOk s
  | .tup xs => match n with
    | 0 => false
    | m + 1 => fits m xs
  | .lsv xs => match n with
    | 0 => false
    | m + 1 => fits m xs
def fits (n : Nat) : List PV → Bool
  | [] => true
  | x :: xs => fit n x && fits n xs
end
theorem fits_all (n : Nat) : ∀ xs : List PV, fits n xs = xs.all (fit n)
  | [] => rfl
  | x :: xs => by rw [fits, List.all_cons, fits_all n xs]
mutual
theorem fit_ok : ∀ (p : PV) (n : Nat), fit n p = true → p.data = true ∧ p.toD.canLay0 = true ∧ p.toD.depth ≤ n
  | .loc _, _, h => by cases h
  | .exn .., _, h => by cases h
  | .non, n, h => ⟨rfl, rfl, Nat.zero_le _⟩
  | .bl _, n, h => ⟨rfl, rfl, Nat.zero_le _⟩
  | .int _, n, h => ⟨rfl, rfl, Nat.zero_le _⟩
  | .str s, n, h => ⟨rfl, h, Nat.zero_le _⟩
  | .tup xs, 0, h => by cases h
  | .tup xs, n + 1, h => by
    obtain ⟨h1, h2, h3⟩ := fits_ok xs n h
    exact ⟨h1, h2, Nat.succ_le_succ h3⟩
  | .lsv xs, 0, h => by cases h
  | .lsv xs, n + 1, h => by
    obtain ⟨h1, h2, h3⟩ := fits_ok xs n h
    exact ⟨h1, h2, Nat.succ_le_succ h3⟩
theorem fits_ok : ∀ (xs : List PV) (n : Nat), fits n xs = true → dataAll xs = true ∧ PyData.canLayAll0 (toDs xs) = true ∧ PyData.depthAll (toDs xs) ≤ n
  | [], n, h => ⟨rfl, rfl, Nat.zero_le _⟩
  | x :: xs, n, h => by
    have h : (fit n x && fits n xs) = true := h
    rw [Bool.and_eq_true] at h
    obtain ⟨h1, h2, h3⟩ := fit_ok x n h.1
    obtain ⟨g1, g2, g3⟩ := fits_ok xs n h.2
    refine ⟨?_, ?_, ?_⟩
    · show (x.data && dataAll xs) = true
      rw [h1, g1]; rfl
    · show (x.toD.canLay0 && PyData.canLayAll0 (toDs xs)) = true
      rw [h2, g2]; rfl
    · exact Nat.max_le.mpr ⟨h3, g3⟩
end
theorem eqv_fit {st : Store} {p q : PV} (hp : fit 64 p = true) (hq : fit 64 q = true) : eqvV st p q = some (PyData.eqv p.toD q.toD) := by
  have gen : eqvD p q = some (PyData.eqv p.toD q.toD) := by
    obtain ⟨h1, h2, h3⟩ := fit_ok p 64 hp
    obtain ⟨g1, g2, g3⟩ := fit_ok q 64 hq
    unfold eqvD
    refine if_pos ⟨h1, g1, ?_, ?_⟩
    · unfold SeqAt.shaped; rw [h2, decide_eq_true h3]; rfl
    · unfold SeqAt.shaped; rw [g2, decide_eq_true g3]; rfl
  cases p <;> cases q <;> first | exact gen | rfl
@[simp] theorem eqv_ints (st : Store) (i j : Int) : eqvV st (.int i) (.int j) = some (i == j) := eqv_fit rfl rfl
theorem eqv_nil (st : Store) {xs : List PV} (h : fits 63 xs = true) : eqvV st (.tup xs) (.tup []) = some xs.isEmpty := by
  rw [eqv_fit (show fit 64 (.tup xs) = true from h) rfl]
  cases xs <;> rfl
/-! ### a bound on how long a thing is shown -/
mutual
def slen : PV → Nat
  | .loc _ => 4
  | .exn .. => 4
  | .non => 4
  | .bl _ => 5
  | .int i => (toString i).length
  | .str s => (reprText s).length
  | .tup xs => slens xs + 3
  | .lsv xs => slens xs + 3
def slens : List PV → Nat
  | [] => 0
  | x :: xs => slen x + 2 + slens xs
end
mutual
theorem slen_ok : ∀ p : PV, p.toD.shown.length ≤ slen p
  | .loc _ => by show (PyData.shown .none).length ≤ 4; decide
  | .exn .. => by show (PyData.shown .none).length ≤ 4; decide
  | .non => by show (PyData.shown .none).length ≤ 4; decide
  | .bl b => by cases b <;> (show _ ≤ 5; decide)
  | .int i => by
    show (Str.ofString (toString i)).length ≤ (toString i).length
    rw [ofString_length]
    exact Nat.le_refl _
  | .str s => Nat.le_refl _
  | .tup xs => by
    have h := tupleText_len_le (PyData.shownAll (toDs xs))
    have h2 := slens_ok xs
    show (tupleText (PyData.shownAll (toDs xs))).length ≤ slens xs + 3
    omega
  | .lsv xs => by
    have h := listText_len_le (PyData.shownAll (toDs xs))
    have h2 := slens_ok xs
    show (listText (PyData.shownAll (toDs xs))).length ≤ slens xs + 3
    omega
theorem slens_ok : ∀ xs : List PV, ((PyData.shownAll (toDs xs)).map (·.length)).sum + 2 * (PyData.shownAll (toDs xs)).length ≤ slens xs
  | [] => Nat.le_refl _
  | x :: xs => by
    have h1 := slen_ok x
    have h2 := slens_ok xs
    show ((x.toD.shown :: PyData.shownAll (toDs xs)).map (·.length)).sum + 2 * (x.toD.shown :: PyData.shownAll (toDs xs)).length ≤ slen x + 2 + slens xs
    simp only [List.map_cons, List.sum_cons, List.length_cons]
    omega
end
/-- fit, its numbers not too long, shown in at most L signs -/
structure Shows (p : PV) (n L : Nat) : Prop where
  fit : fit n p = true
  nums : p.toD.showable = true
  len : slen p ≤ L
theorem Shows.mono {p : PV} {n L m M : Nat} (h : Shows p n L) (h1 : n = m) (h2 : L ≤ M) : Shows p m M := ⟨h1 ▸ h.fit, h.nums, Nat.le_trans h.len h2⟩
theorem shows_int {i : Int} {n k : Nat} (hk : 0 < k) (h : i.natAbs < 10 ^ k) (hs : k ≤ 250) : Shows (.int i) n (k + 1) := by
  refine ⟨rfl, decide_eq_true ?_, int_text_length_le10 hk h⟩
  have h1 : i.natAbs < 2 ^ 1920 := Nat.lt_of_lt_of_le h (Nat.le_trans (Nat.pow_le_pow_right (by decide) hs) (by decide))
  by_cases h0 : i.natAbs = 0
  · rw [h0]; decide
  · exact (Nat.log2_lt h0).mpr h1
theorem slens_le {B : Nat} : ∀ {xs : List PV}, (∀ x ∈ xs, slen x ≤ B) → slens xs ≤ xs.length * (B + 2)
  | [], _ => Nat.zero_le _
  | x :: xs, h => by
    have h1 := h x List.mem_cons_self
    have h2 := slens_le (xs := xs) fun y hy => h y (List.mem_cons_of_mem _ hy)
    show slen x + 2 + slens xs ≤ (xs.length + 1) * (B + 2)
    rw [Nat.add_mul]
    omega
theorem showAll {xs : List PV} (h : ∀ x ∈ xs, x.toD.showable = true) : PyData.showableAll (toDs xs) = true := by
  induction xs with
  | nil => rfl
  | cons x xs ih =>
    show (x.toD.showable && PyData.showableAll (toDs xs)) = true
    rw [h x List.mem_cons_self, ih fun y hy => h y (List.mem_cons_of_mem _ hy)]; rfl
theorem shows_seq {xs : List PV} {n B m : Nat} (h : ∀ x ∈ xs, Shows x n B) (hm : xs.length ≤ m) : Shows (.tup xs) (n + 1) (m * (B + 2) + 3) ∧ Shows (.lsv xs) (n + 1) (m * (B + 2) + 3) := by
  have f : fits n xs = true := by
    rw [fits_all, List.all_eq_true]
    exact fun x hx => (h x hx).fit
  have s : PyData.showableAll (toDs xs) = true := showAll fun x hx => (h x hx).nums
  have l : slens xs + 3 ≤ m * (B + 2) + 3 := Nat.add_le_add_right (Nat.le_trans (slens_le fun x hx => (h x hx).len) (Nat.mul_le_mul_right _ hm)) 3
  exact ⟨⟨f, s, l⟩, ⟨f, s, l⟩⟩
theorem repr_shows {p : PV} {n L : Nat} {fr : Bool} {st : Store} (h : Shows p n L) (hn : n ≤ 64) (hL : L ≤ sizeLine) : biV .repr fr st [p] = .ok (.str p.toD.shown) st := by
  obtain ⟨h1, h2, h3⟩ := fit_ok p n h.fit
  show (if p.data = true ∧ p.toD.showable = true ∧ p.toD.shown.length ≤ sizeLine ∧ p.toD.depth ≤ 64 then _ else _) = _
  exact if_pos ⟨h1, h.nums, Nat.le_trans (slen_ok p) (Nat.le_trans h.len hL), Nat.le_trans h3 hn⟩
end L2.Iv

/-! IvP: the operations, one step each. Own work. -/
namespace L2.Iv
open PySem
section
variable {st : Store} {fr : Bool} {xs ys : List PV} {i j : Int} {env : Env} {v w : PV}
@[simp] theorem asg_n (k : Nat) : asgP (.n k) v env = some (env.set k (some v)) := rfl
@[simp] theorem asg_t2 (a b : Pt) (x y : PV) : asgP (.t2 a b) (.tup [x, y]) env = (asgP a x env).bind (asgP b y) := rfl
@[simp] theorem asg_t3 (a b c : Pt) (x y z : PV) : asgP (.t3 a b c) (.tup [x, y, z]) env = ((asgP a x env).bind (asgP b y)).bind (asgP c z) := rfl
@[simp] theorem asg_t4 (a b c d : Pt) (x y z u : PV) : asgP (.t4 a b c d) (.tup [x, y, z, u]) env = (((asgP a x env).bind (asgP b y)).bind (asgP c z)).bind (asgP d u) := rfl
@[simp] theorem asg_t5 (a b c d e : Pt) (x y z u v : PV) : asgP (.t5 a b c d e) (.tup [x, y, z, u, v]) env = ((((asgP a x env).bind (asgP b y)).bind (asgP c z)).bind (asgP d u)).bind (asgP e v) := rfl
@[simp] theorem wipe_nil : wipeE env [] = env := rfl
@[simp] theorem wipe_cons (k : Nat) (ks : List Nat) : wipeE env (k :: ks) = (wipeE env ks).set k none := rfl
@[simp] theorem seqA_tup : seqA st (.tup xs) = some xs := rfl
@[simp] theorem seqA_lsv : seqA st (.lsv xs) = some xs := rfl
@[simp] theorem seqA_loc (k : Nat) : seqA st (.loc k) = st[k]? := rfl
@[simp] theorem seqL_lsv : seqL st (.lsv xs) = some xs := rfl
@[simp] theorem seqL_loc (k : Nat) : seqL st (.loc k) = st[k]? := rfl
@[simp] theorem watch_tup : watchOf (.tup xs) ys = [] := rfl
@[simp] theorem watch_lsv : watchOf (.lsv xs) ys = [] := rfl
@[simp] theorem watch_loc (k : Nat) : watchOf (.loc k) ys = [(k, ys)] := rfl
@[simp] theorem newL_t : newL true xs st = .ok (.lsv xs) st := rfl
@[simp] theorem newL_f : newL false xs st = .ok (.loc st.length) (st ++ [xs]) := rfl
@[simp] theorem ty_non : tyOfP .non = some "NoneType" := rfl
@[simp] theorem ty_bl (b : Bool) : tyOfP (.bl b) = some "bool" := rfl
@[simp] theorem ty_int : tyOfP (.int i) = some "int" := rfl
@[simp] theorem ty_str (s : Str) : tyOfP (.str s) = some "str" := rfl
@[simp] theorem ty_tup : tyOfP (.tup xs) = some "tuple" := rfl
@[simp] theorem ty_lsv : tyOfP (.lsv xs) = some "list" := rfl
@[simp] theorem ty_loc (k : Nat) : tyOfP (.loc k) = some "list" := rfl
/-! two places -/
@[simp] theorem b_add : binV .add fr st (.int i) (.int j) = .ok (.int (i + j)) st := rfl
@[simp] theorem b_addT : binV .add fr st (.tup xs) (.tup ys) = if xs.length + ys.length ≤ sizeLine then .ok (.tup (xs ++ ys)) st else .bad := rfl
@[simp] theorem b_addS (a b : Str) : binV .add fr st (.str a) (.str b) = if a.length + b.length ≤ sizeLine then .ok (.str (a ++ b)) st else .bad := rfl
@[simp] theorem b_addL : binV .add fr st (.lsv xs) (.lsv ys) = if xs.length + ys.length ≤ sizeLine then newL fr (xs ++ ys) st else .bad := rfl
@[simp] theorem b_sub : binV .sub fr st (.int i) (.int j) = .ok (.int (i - j)) st := rfl
@[simp] theorem b_mul : binV .mul fr st (.int i) (.int j) = if i.natAbs.log2 + j.natAbs.log2 < 1000000 then .ok (.int (i * j)) st else .bad := rfl
@[simp] theorem b_fdiv : binV .fdiv fr st (.int i) (.int j) = if 0 < j ∧ j.natAbs.log2 < 9000 then .ok (.int (i / j)) st else .bad := rfl
@[simp] theorem b_mod : binV .mod fr st (.int i) (.int j) = if 0 < j then .ok (.int (i % j)) st else .bad := rfl
@[simp] theorem b_pow : binV .pow fr st (.int i) (.int j) = if 0 ≤ j ∧ j ≤ 1000000 ∧ i.natAbs < 2 ^ 64 then .ok (.int (i ^ j.toNat)) st else .bad := rfl
@[simp] theorem c_eq : cmpV .eq st v w = eqvV st v w := rfl
@[simp] theorem c_ne : cmpV .ne st v w = (eqvV st v w).map (!·) := rfl
@[simp] theorem c_lt : cmpV .lt st (.int i) (.int j) = some (decide (i < j)) := rfl
@[simp] theorem c_le : cmpV .le st (.int i) (.int j) = some (decide (i ≤ j)) := rfl
@[simp] theorem c_gt : cmpV .gt st (.int i) (.int j) = some (decide (j < i)) := rfl
@[simp] theorem c_ge : cmpV .ge st (.int i) (.int j) = some (decide (j ≤ i)) := rfl
@[simp] theorem c_isB (a b : Bool) : cmpV .is st (.bl a) (.bl b) = some (decide (a = b)) := rfl
@[simp] theorem eqv_strs (a b : Str) : eqvV st (.str a) (.str b) = some (a == b) := rfl
@[simp] theorem a_add : augV .add (.int i) (.int j) = some (.int (i + j)) := rfl
@[simp] theorem a_sub : augV .sub (.int i) (.int j) = some (.int (i - j)) := rfl
@[simp] theorem ix_tup : ixV st (.tup xs) (.int i) = L2.atI xs i := rfl
@[simp] theorem ix_lsv : ixV st (.lsv xs) (.int i) = L2.atI xs i := rfl
@[simp] theorem ix_loc (k : Nat) : ixV st (.loc k) (.int i) = match st[k]? with
    | some xs => L2.atI xs i
    | none => none := rfl
theorem at_nn {α : Type} {xs : List α} {i : Int} (h : 0 ≤ i) : L2.atI xs i = xs[i.toNat]? := by
  unfold L2.atI L2.ixN
  rw [if_pos h]
  by_cases h1 : i < xs.length
  · rw [if_pos h1]; rfl
  · rw [if_neg h1]
    exact (List.getElem?_eq_none (by omega)).symm
@[simp] theorem at_0 {α : Type} {xs : List α} : L2.atI xs 0 = xs[0]? := at_nn (by decide)
@[simp] theorem at_1 {α : Type} {xs : List α} : L2.atI xs 1 = xs[1]? := at_nn (by decide)
@[simp] theorem at_2 {α : Type} {xs : List α} : L2.atI xs 2 = xs[2]? := at_nn (by decide)
@[simp] theorem at_3 {α : Type} {xs : List α} : L2.atI xs 3 = xs[3]? := at_nn (by decide)
@[simp] theorem at_4 {α : Type} {xs : List α} : L2.atI xs 4 = xs[4]? := at_nn (by decide)
@[simp] theorem sl_tup (lo hi : Option Int) : slV fr st (.tup xs) lo hi = .ok (.tup (cutP xs lo hi)) st := rfl
@[simp] theorem sl_lsv (lo hi : Option Int) : slV fr st (.lsv xs) lo hi = newL fr (cutP xs lo hi) st := rfl
theorem cut_from (k : Nat) : cutP xs (some (k : Int)) none = xs.drop k := by
  unfold cutP
  rw [HT.sIx_nat, HT.sIx_none]
  by_cases h : k ≤ xs.length
  · rw [Nat.min_eq_left h]
    exact List.take_of_length_le (by rw [List.length_drop]; exact Nat.le_refl _)
  · rw [Nat.min_eq_right (by omega), List.drop_length, List.drop_eq_nil_of_le (by omega), List.take_nil]
@[simp] theorem cut_1 : cutP xs (some 1) none = xs.drop 1 := cut_from 1
@[simp] theorem cut_2 : cutP xs (some 2) none = xs.drop 2 := cut_from 2
theorem cut_to (k : Nat) : cutP xs none (some (k : Int)) = xs.take k := by
  unfold cutP
  rw [HT.sIx_nat, HT.sIx_none, List.drop_zero, Nat.sub_zero]
  by_cases h : k ≤ xs.length
  · rw [Nat.min_eq_left h]
  · rw [Nat.min_eq_right (by omega), List.take_length, List.take_of_length_le (by omega)]
@[simp] theorem set_loc (k : Nat) : setV st (.loc k) (.int i) v = match st[k]? with
    | some xs => (L2.ixN xs.length i).map fun j => st.set k (xs.set j v)
    | none => none := rfl
theorem ixN_nn {n : Nat} {i : Int} (h : 0 ≤ i) (h2 : i < n) : L2.ixN n i = some i.toNat := by
  unfold L2.ixN
  rw [if_pos h, if_pos h2]
/-! built-in functions -/
@[simp] theorem bi_lenT : biV .len fr st [.tup xs] = .ok (.int xs.length) st := rfl
@[simp] theorem bi_lenL : biV .len fr st [.lsv xs] = .ok (.int xs.length) st := rfl
@[simp] theorem bi_lenM (k : Nat) : biV .len fr st [.loc k] = match st[k]? with
    | some xs => .ok (.int xs.length) st
    | none => .bad := rfl
@[simp] theorem bi_abs : biV .abs fr st [.int i] = .ok (.int (if i < 0 then -i else i)) st := rfl
@[simp] theorem bi_max2 : biV .max2 fr st [.int i, .int j] = .ok (.int (if j > i then j else i)) st := rfl
@[simp] theorem bi_min2 : biV .min2 fr st [.int i, .int j] = .ok (.int (if j < i then j else i)) st := rfl
@[simp] theorem bi_sum : biV .sum fr st [.lsv xs] = match intsOf xs with
    | some ns => .ok (.int ns.sum) st
    | none => .bad := by
  show (match intsOf xs with
    | some ns => Out.ok (PV.int ns.sum) st
    | _ => .bad) = _
  cases intsOf xs <;> rfl
@[simp] theorem bi_all : biV .all fr st [.lsv xs] = match blsOf xs with
    | some bs => .ok (.bl (bs.all id)) st
    | none => .bad := by
  show (match blsOf xs with
    | some ns => Out.ok (PV.bl (ns.all id)) st
    | _ => .bad) = _
  cases blsOf xs <;> rfl
@[simp] theorem bi_any : biV .any fr st [.lsv xs] = match blsOf xs with
    | some bs => .ok (.bl (bs.any id)) st
    | none => .bad := by
  show (match blsOf xs with
    | some ns => Out.ok (PV.bl (ns.any id)) st
    | _ => .bad) = _
  cases blsOf xs <;> rfl
@[simp] theorem bi_int : biV .int fr st [.int i] = .ok (.int i) st := rfl
@[simp] theorem bi_tupT : biV .tuple fr st [.tup xs] = .ok (.tup xs) st := rfl
@[simp] theorem bi_tupL : biV .tuple fr st [.lsv xs] = .ok (.tup xs) st := rfl
@[simp] theorem bi_tupM (k : Nat) : biV .tuple fr st [.loc k] = match st[k]? with
    | some xs => .ok (.tup xs) st
    | none => .bad := by
  show (match st[k]? with
    | some xs => Out.ok (PV.tup xs) st
    | none => .bad) = _
  cases st[k]? <;> rfl
@[simp] theorem bi_listT : biV .list fr st [.tup xs] = newL fr xs st := rfl
@[simp] theorem bi_listL : biV .list fr st [.lsv xs] = newL fr xs st := rfl
@[simp] theorem me_app (k : Nat) : meV .append st k [v] = match st[k]? with
    | some xs => if xs.length < sizeLine then .ok .non (st.set k (xs ++ [v])) else .bad
    | none => .bad := by
  cases h : st[k]? <;> simp [meV, h]
@[simp] theorem zip_tup : zipV st (.tup xs) (.tup ys) = .ok ((xs.zip ys).map fun p => .tup [p.1, p.2], []) st := rfl
@[simp] theorem zip_lsv : zipV st (.lsv xs) (.lsv ys) = .ok ((xs.zip ys).map fun p => .tup [p.1, p.2], []) st := rfl
end
theorem bls_map {α : Type} (f : α → Bool) : ∀ l : List α, blsOf (l.map fun x => .bl (f x)) = some (l.map f)
  | [] => rfl
  | x :: l => by
    show (blsOf (l.map fun x => .bl (f x))).map (f x :: ·) = _
    rw [bls_map f l]; rfl
theorem ints_map {α : Type} (f : α → Int) : ∀ l : List α, intsOf (l.map fun x => .int (f x)) = some (l.map f)
  | [] => rfl
  | x :: l => by
    show (intsOf (l.map fun x => .int (f x))).map (f x :: ·) = _
    rw [ints_map f l]; rfl
theorem frz_eq {m : Nat} {s : Store} {v : PV} (h : v.free = true) : frz m s 64 v = some v := frz_free h
@[simp] theorem frz_bl (m : Nat) (s : Store) (b : Bool) : frz m s 64 (.bl b) = some (.bl b) := frz_free rfl
@[simp] theorem frz_int (m : Nat) (s : Store) (b : Int) : frz m s 64 (.int b) = some (.int b) := frz_free rfl
@[simp] theorem frz_non (m : Nat) (s : Store) : frz m s 64 .non = some .non := frz_free rfl
end L2.Iv

/-! IvQ: the ends: error classes and constants of the module, as the top has put them. Own work. -/
namespace L2.Iv
open PySem PySem.Spec PyProof.Rows

def clsBody (s : Stmt) : List Stmt := match s with
  | .ClassDef _ _ _ b _ _ _ _ _ _ _ => b
  | _ => []
/-- one class beside another -/
theorem isa_of {K : PySem.W.Frag} {C D : Addr} {b : Bool} (h1 : PySem.W.subIn K (.ref D) (.type "BaseException") = some true) (h2 : PySem.W.isClsIn K D = true) (h3 : PySem.W.typeIn K (.ref D) = some (.type "type")) (h4 : PySem.W.subIn K (.ref C) (.ref D) = some b)
    (h5 : PySem.W.subIn K (.ref C) (.ref C) = some true) : PySem.W.kitOne K (.ref C) (.ref D) = some b ∧ PySem.W.exmOne K (.ref C) (.ref D) = some b := by
  have e2 : ((PySem.W.clsIn K D).isSome && PySem.W.typeIn K (.ref D) == some (.type "type")) = true := by
    have h2' : (PySem.W.clsIn K D).isSome = true := h2
    rw [h2', h3] <;> rfl
  have ek : PySem.W.kitCls K (.ref C) (.ref D) = some b := (if_pos e2).trans h4
  refine ⟨?_, ?_⟩
  · unfold PySem.W.kitOne
    by_cases h : (Value.ref C == Value.ref D) = true
    · have e : C = D := Value.ref.inj (eq_of_beq h)
      subst e
      rw [h5] at h4
      rw [if_pos h, ← h4]
    · rw [if_neg h]
      exact ek
  · unfold PySem.W.exmOne
    rw [h1, if_pos (by rfl)]
    exact ek
theorem isa_ve {K : PySem.W.Frag} {C : Addr} (h : PySem.W.subIn K (.ref C) (.type "ValueError") = some true) (h0 : PySem.W.subIn K (.type "ValueError") (.type "BaseException") = some true) :
    PySem.W.kitOne K (.ref C) (.type "ValueError") = some true ∧ PySem.W.exmOne K (.ref C) (.type "ValueError") = some true := by
  have em : PySem.W.kitMeta "ValueError" = true := by decide +kernel
  have ek : PySem.W.kitCls K (.ref C) (.type "ValueError") = some true := by
    show (if PySem.W.kitMeta "ValueError" = true then PySem.W.subIn K (.ref C) (.type "ValueError") else none) = some true
    rw [if_pos em]
    exact h
  refine ⟨?_, ?_⟩
  · unfold PySem.W.kitOne
    rw [if_neg (by intro z; cases eq_of_beq z)]
    exact ek
  · unfold PySem.W.exmOne
    rw [h0, if_pos (by rfl)]
    exact ek
theorem isa_none {K : PySem.W.Frag} {C : Addr} (h2 : PySem.W.isClsIn K C = true) (h3 : PySem.W.typeIn K (.ref C) = some (.type "type")) (h : PySem.W.subIn K (.type "NoneType") (.ref C) = some false) : PySem.W.kitOne K (.type "NoneType") (.ref C) = some false := by
  have e2 : ((PySem.W.clsIn K C).isSome && PySem.W.typeIn K (.ref C) == some (.type "type")) = true := by
    have h2' : (PySem.W.clsIn K C).isSome = true := h2
    rw [h2', h3] <;> rfl
  unfold PySem.W.kitOne
  rw [if_neg (by intro z; cases eq_of_beq z)]
  exact (if_pos e2).trans h
/-- a constant tuple of the module -/
theorem gl_tup {K : PySem.W.Frag} {mg : Str → Option Value} {x : Str} {a : Addr} {o : Obj} {its : Array Value} {n : Nat} {vs : List V} {ps : List PV} (m : mg x = some (.ref a)) (l : K.lookup a = some o) (hc : o.cls = .type "tuple") (hd : o.data = .seq its n)
    (hz : its.size ≤ sizeLine) (h : Vals vs its.toList) (q : ∀ F H r, Reps K F H r vs ps) : ∃ u v, mg x = some u ∧ RelV v u ∧ ∀ F H r, Rep K F H r v (.tup ps) :=
  ⟨.ref a, .ref a, m, rfl, fun F H r => .tup (.inr ⟨o, its, n, l, hc, hd, hz, h⟩) (q F H r)⟩
theorem gl_int {K : PySem.W.Frag} {mg : Str → Option Value} {x : Str} {i : Int} {t : Tok} (m : mg x = some (.int i t)) : ∃ u v, mg x = some u ∧ RelV v u ∧ ∀ F H r, Rep K F H r v (.int i) := ⟨_, .int i, m, ⟨t, rfl⟩, fun F H r => .int i⟩
theorem gl_str {K : PySem.W.Frag} {mg : Str → Option Value} {x : Str} {i : Str} {t : Tok} (m : mg x = some (.str i t)) : ∃ u v, mg x = some u ∧ RelV v u ∧ ∀ F H r, Rep K F H r v (.str i) := ⟨_, .str i, m, ⟨t, rfl⟩, fun F H r => .str i⟩
end L2.Iv
namespace L2.Iv
open PySem
/-- a def that raises, handed nothing to write -/
theorem fn_exc {g : Sg} {cl : Str → Nat} {n : Nat} {f : Str} {fn : Fn} {args : List PV} {st : Store} {c : Str} {v : PV} (hl : g.tb.lookup f = some fn) (ha : args.length = fn.ps.length) (hf : freeAll args = true)
    (h : wpO (evSs (g.ctx cl n) fn.body (env0 fn args) []) fun r s2 => match r with
      | .rz d u _ => d = c ∧ frz 0 s2 64 u = some v
      | _ => False) : (g.ctx cl (n + 1)).fn f args st = .exc c v st := by
  show callF cl g.ecs g.tb (fun x => g.gl.lookup x) (n + 1) f args st = _
  rw [callF_succ, hl]
  dsimp only
  rw [if_pos ⟨ha, ok_free hf⟩, locs_free hf, ren_frees hf]
  dsimp only [subSt]
  obtain ⟨r, s2, e, q⟩ := wp_get h
  have hrun : runB ⟨callF cl g.ecs g.tb (fun x => g.gl.lookup x) n, fun x => g.gl.lookup x, cl, g.ecs⟩ fn args [] = (evSs (g.ctx cl n) fn.body (env0 fn args) []).quiet.bind fun f st1 => match f with
    | .rt v => .ok v st1
    | .nx _ => .ok .non st1
    | .rz c v _ => .exc c v st1
    | _ => .bad := rfl
  rw [hrun, e]
  cases r with
  | rz d u en =>
    obtain ⟨rfl, q⟩ := q
    show (backV false [] st u s2).bind _ = _
    unfold backV
    dsimp only
    have e2 : flatSt (s2.take ([] : List Nat).length) = true := by rw [List.length_nil, List.take_zero]; rfl
    rw [if_pos ⟨Nat.zero_le _, e2⟩, if_neg Bool.false_ne_true]
    have e3 : frz ([] : List Nat).length s2 64 u = some v := q
    rw [e3]
    show Out.exc d v (putSt st [] (s2.take 0)) = _
    rw [List.take_zero]
    rfl
  | _ => exact q.elim
/-- behind a try -/
@[simp] theorem sub_ec (C : Ctx) (c x : Str) : C.sub c x = (C.ec.lookup c).map fun l => decide (x ∈ l) := rfl
@[simp] theorem inH_some (C : Ctx) (i : Nat) (c : Str) (v : PV) (env : Env) : inH C (some i) c v env = env.set i (some (.exn c (C.cl c) v)) := rfl
@[simp] theorem inH_none (C : Ctx) (c : Str) (v : PV) (env : Env) : inH C none c v env = env := rfl
@[simp] theorem outH_some (i : Nat) (env : Env) : outH (some i) env = env.set i none := rfl
@[simp] theorem outH_none (env : Env) : outH none env = env := rfl
@[simp] theorem ise_non (C : Ctx) (x : Str) : iseV C x .non = some false := rfl
@[simp] theorem ise_exn (C : Ctx) (x c : Str) (D : Nat) (v : PV) : iseV C x (.exn c D v) = if D = C.cl c then (C.ec.lookup c).map (fun l => decide (x ∈ l)) else none := rfl
end L2.Iv

/-! TmB: terms as Lean data; drawing from a list of two numbers; small numbers. Own work. -/
namespace L2.Tm
open PySem L2.Iv

/-! ### numbers -/
theorem nat_lt {i : Int} {b : Nat} (h0 : 0 ≤ i) (h1 : i < b) : i.natAbs < b := by omega
theorem log_le {n k : Nat} (h : n < 2 ^ k) : n.log2 ≤ k := by
  by_cases h0 : n = 0
  · subst h0
    rw [show Nat.log2 0 = 0 by decide]
    exact Nat.zero_le _
  · exact Nat.le_of_lt ((Nat.log2_lt h0).mpr h)
theorem mul_ok {a b : Nat} (ha : a < 2 ^ 400) (hb : b < 2 ^ 400) : a.log2 + b.log2 < 1000000 := by
  have h1 := log_le ha
  have h2 := log_le hb
  omega
theorem log_small {j : Int} (h : j.natAbs < 2 ^ 400) : j.natAbs.log2 < 9000 := Nat.lt_of_le_of_lt (log_le h) (by decide)

/-! ### terms -/
inductive Tm where
  | l (n : Nat) | no | th (ts : List Tm) | on (t : Tm) | bk (t : Tm)
mutual
def enc : Tm → PV
  | .l n => .int n
  | .no => .tup [.str "none"]
  | .th ts => .tup (.str "then" :: encs ts)
  | .on t => .tup [.str "on", enc t]
  | .bk t => .tup [.str "back", enc t]
def encs : List Tm → List PV
  | [] => []
  | t :: ts => enc t :: encs ts
end
mutual
/-- letters below k, two parts and more -/
def wf (k : Nat) : Tm → Bool
  | .l n => decide (n < k)
  | .no => true
  | .th ts => decide (2 ≤ ts.length) && wfs k ts
  | .on t => wf k t
  | .bk t => wf k t
def wfs (k : Nat) : List Tm → Bool
  | [] => true
  | t :: ts => wf k t && wfs k ts
end
mutual
def sg : Tm → Nat
  | .l _ => 1
  | .no => 1
  | .th ts => 1 + sgs ts
  | .on t => 1 + sg t
  | .bk t => 1 + sg t
def sgs : List Tm → Nat
  | [] => 0
  | t :: ts => sg t + sgs ts
end
mutual
def sz : Tm → Nat
  | .l _ => 1
  | .no => 0
  | .th ts => szs ts
  | .on t => 1 + sz t
  | .bk t => 1 + sz t
def szs : List Tm → Nat
  | [] => 0
  | t :: ts => sz t + szs ts
end
mutual
def lets : Tm → List Nat
  | .l n => [n]
  | .no => []
  | .th ts => letss ts
  | .on t => lets t
  | .bk t => lets t
def letss : List Tm → List Nat
  | [] => []
  | t :: ts => lets t ++ letss ts
end
mutual
/-- how many storeys -/
def dep : Tm → Nat
  | .l _ => 0
  | .no => 1
  | .th ts => 1 + deps ts
  | .on t => 1 + dep t
  | .bk t => 1 + dep t
def deps : List Tm → Nat
  | [] => 0
  | t :: ts => max (dep t) (deps ts)
end
theorem encs_map : ∀ ts : List Tm, encs ts = ts.map enc
  | [] => rfl
  | t :: ts => by rw [encs, List.map_cons, encs_map ts]
theorem wfs_all (k : Nat) : ∀ ts : List Tm, wfs k ts = ts.all (wf k)
  | [] => rfl
  | t :: ts => by rw [wfs, List.all_cons, wfs_all k ts]
theorem sgs_sum : ∀ ts : List Tm, sgs ts = (ts.map sg).sum
  | [] => rfl
  | t :: ts => by rw [sgs, List.map_cons, List.sum_cons, sgs_sum ts]
theorem szs_sum : ∀ ts : List Tm, szs ts = (ts.map sz).sum
  | [] => rfl
  | t :: ts => by rw [szs, List.map_cons, List.sum_cons, szs_sum ts]
theorem letss_flat : ∀ ts : List Tm, letss ts = ts.flatMap lets
  | [] => rfl
  | t :: ts => by rw [letss, List.flatMap_cons, letss_flat ts]
theorem sgs_app (a b : List Tm) : sgs (a ++ b) = sgs a + sgs b := by
  rw [sgs_sum, sgs_sum, sgs_sum, List.map_append, List.sum_append]
mutual
theorem sg_pos : ∀ t : Tm, 1 ≤ sg t
  | .l _ => Nat.le_refl _
  | .no => Nat.le_refl _
  | .th ts => by rw [sg]; omega
  | .on t => by rw [sg]; omega
  | .bk t => by rw [sg]; omega
end
theorem sgs_len : ∀ ts : List Tm, ts.length ≤ sgs ts
  | [] => Nat.le_refl _
  | t :: ts => by
    have := sgs_len ts
    have := sg_pos t
    rw [sgs, List.length_cons]
    omega
mutual
theorem dep_sg : ∀ t : Tm, dep t ≤ sg t
  | .l _ => Nat.zero_le _
  | .no => Nat.le_refl _
  | .th ts => by have := deps_sgs ts; rw [dep, sg]; omega
  | .on t => by have := dep_sg t; rw [dep, sg]; omega
  | .bk t => by have := dep_sg t; rw [dep, sg]; omega
theorem deps_sgs : ∀ ts : List Tm, deps ts ≤ sgs ts
  | [] => Nat.le_refl _
  | t :: ts => by
    have := dep_sg t
    have := deps_sgs ts
    rw [deps, sgs]
    omega
end
theorem mem_sg {t : Tm} {ts : List Tm} (h : t ∈ ts) : sg t ≤ sgs ts := by
  induction ts with
  | nil => cases h
  | cons u us ih =>
    rw [sgs]
    rcases List.mem_cons.mp h with rfl | h
    · omega
    · have := ih h; omega
theorem mem_dep {t : Tm} {ts : List Tm} (h : t ∈ ts) : dep t ≤ deps ts := by
  induction ts with
  | nil => cases h
  | cons u us ih =>
    rw [deps]
    rcases List.mem_cons.mp h with rfl | h
    · omega
    · have := ih h; omega
theorem wfs_mem {k : Nat} {t : Tm} {ts : List Tm} (h : wfs k ts = true) (m : t ∈ ts) : wf k t = true := by
  rw [wfs_all, List.all_eq_true] at h
  exact h t m
theorem fit_str (n : Nat) (s : Str) : fit n (.str s) = PyData.strOk s := by cases n <;> rfl
theorem ok_then : PyData.strOk "then" = true := by decide +kernel
theorem ok_on : PyData.strOk "on" = true := by decide +kernel
theorem ok_back : PyData.strOk "back" = true := by decide +kernel
theorem ok_none : PyData.strOk "none" = true := by decide +kernel
mutual
theorem fit_enc : ∀ (t : Tm) (n : Nat), dep t ≤ n → fit n (enc t) = true
  | .l _, n, _ => by cases n <;> rfl
  | .no, 0, h => by rw [dep] at h; omega
  | .no, n + 1, _ => by
    show (fit n (.str "none") && true) = true
    rw [fit_str, ok_none]; rfl
  | .th ts, 0, h => by rw [dep] at h; omega
  | .th ts, n + 1, h => by
    rw [dep] at h
    show (fit n (.str "then") && fits n (encs ts)) = true
    rw [fits_encs ts n (by omega), fit_str, ok_then]
    rfl
  | .on t, 0, h => by rw [dep] at h; omega
  | .on t, n + 1, h => by
    rw [dep] at h
    show (fit n (.str "on") && (fit n (enc t) && true)) = true
    rw [fit_enc t n (by omega), fit_str, ok_on]
    rfl
  | .bk t, 0, h => by rw [dep] at h; omega
  | .bk t, n + 1, h => by
    rw [dep] at h
    show (fit n (.str "back") && (fit n (enc t) && true)) = true
    rw [fit_enc t n (by omega), fit_str, ok_back]
    rfl
theorem fits_encs : ∀ (ts : List Tm) (n : Nat), deps ts ≤ n → fits n (encs ts) = true
  | [], _, _ => rfl
  | t :: ts, n, h => by
    rw [deps] at h
    show (fit n (enc t) && fits n (encs ts)) = true
    rw [fit_enc t n (by omega), fits_encs ts n (by omega)]
    rfl
end
mutual
theorem free_enc : ∀ t : Tm, (enc t).free = true
  | .l _ => rfl
  | .no => rfl
  | .th ts => by
    show ((PV.str "then").free && freeAll (encs ts)) = true
    rw [free_encs ts]; rfl
  | .on t => by
    show ((PV.str "on").free && ((enc t).free && true)) = true
    rw [free_enc t]; rfl
  | .bk t => by
    show ((PV.str "back").free && ((enc t).free && true)) = true
    rw [free_enc t]; rfl
theorem free_encs : ∀ ts : List Tm, freeAll (encs ts) = true
  | [] => rfl
  | t :: ts => by
    show ((enc t).free && freeAll (encs ts)) = true
    rw [free_enc t, free_encs ts]; rfl
end
theorem sl_then : slen (.str "then") = 6 := by decide +kernel
theorem sl_on : slen (.str "on") = 4 := by decide +kernel
theorem sl_back : slen (.str "back") = 6 := by decide +kernel
theorem sl_none : slen (.str "none") = 6 := by decide +kernel
mutual
/-- letters below 1000: how long it is shown -/
theorem slen_enc : ∀ t : Tm, wf 1000 t = true → slen (enc t) + 11 ≤ 24 * sg t
  | .l n, h => by
    have h : n < 1000 := by simpa [wf] using h
    show (toString ((n : Nat) : Int)).length + 11 ≤ 24 * 1
    have h2 : ((n : Int).natAbs) < 10 ^ 3 := by omega
    have := int_text_length_le10 (k := 3) (by decide) h2
    omega
  | .no, _ => by
    show (slen (.str "none") + 2 + 0 + 3) + 11 ≤ 24 * 1
    rw [sl_none]; decide
  | .th ts, h => by
    simp only [wf, Bool.and_eq_true, decide_eq_true_eq] at h
    have := slens_encs ts h.2
    show (slen (.str "then") + 2 + slens (encs ts)) + 3 + 11 ≤ 24 * sg (.th ts)
    rw [sg, sl_then]
    omega
  | .on t, h => by
    have := slen_enc t h
    show (slen (.str "on") + 2 + (slen (enc t) + 2 + 0)) + 3 + 11 ≤ 24 * sg (.on t)
    rw [sg, sl_on]
    omega
  | .bk t, h => by
    have := slen_enc t h
    show (slen (.str "back") + 2 + (slen (enc t) + 2 + 0)) + 3 + 11 ≤ 24 * sg (.bk t)
    rw [sg, sl_back]
    omega
theorem slens_encs : ∀ ts : List Tm, wfs 1000 ts = true → slens (encs ts) + 9 * ts.length ≤ 24 * sgs ts
  | [], _ => Nat.le_refl _
  | t :: ts, h => by
    simp only [wfs, Bool.and_eq_true] at h
    have h1 := slen_enc t h.1
    have h2 := slens_encs ts h.2
    show slen (enc t) + 2 + slens (encs ts) + 9 * (ts.length + 1) ≤ _
    rw [sgs]
    omega
end
end L2.Tm

/-! TmC: which values are terms; how terms are looked at from outside. Own work. -/
namespace L2.Tm
open PySem L2.Iv

def isInt : PV → Bool
  | .int _ => true
  | _ => false
/-- what stands behind the word of a tuple: must it be looked at -/
def headOk (w : Str) (n : Nat) : Bool :=
  if w = ("then" : Str) then decide (2 ≤ n) else if w = ("on" : Str) ∨ w = ("back" : Str) then decide (n = 1) else decide (w = ("none" : Str)) && decide (n = 0)
def inner (k : Int) : PV → Option (List PV)
  | .int i => if 0 ≤ i ∧ i < k then some [] else none
  | .tup (.str w :: r) => if headOk w r.length = true then some r else none
  | _ => none
def okHead : List PV → Bool
  | .str w :: r => headOk w r.length
  | _ => false
mutual
def isTm (k : Int) : PV → Bool
  | .int i => decide (0 ≤ i ∧ i < k)
  | .tup xs => okHead xs && isTl k xs
  | .non => false
  | .bl _ => false
  | .str _ => false
  | .lsv _ => false
  | .loc _ => false
  | .exn .. => false
def isTl (k : Int) : List PV → Bool
  | [] => true
  | _ :: r => isTms k r
def isTms (k : Int) : List PV → Bool
  | [] => true
  | x :: r => isTm k x && isTms k r
end
theorem isTm_inner (k : Int) (v : PV) : isTm k v = match inner k v with
    | some xs => isTms k xs
    | none => false := by
  cases v with
  | int i =>
    by_cases h : 0 ≤ i ∧ i < k
    · simp [isTm, inner, h, isTms]
    · simp only [isTm, inner, if_neg h, decide_eq_false h]
  | tup xs =>
    match xs with
    | [] => rfl
    | .str w :: r =>
      cases h : headOk w r.length with
      | true => simp [isTm, inner, okHead, h, isTl]
      | false => simp [isTm, inner, okHead, h]
    | .int _ :: _ => rfl
    | .non :: _ => rfl
    | .bl _ :: _ => rfl
    | .tup _ :: _ => rfl
    | .lsv _ :: _ => rfl
    | .loc _ :: _ => rfl
    | .exn .. :: _ => rfl
  | _ => rfl
mutual
/-- how many things -/
def wt : PV → Nat
  | .tup xs => 1 + wts xs
  | .lsv xs => 1 + wts xs
  | .non => 1
  | .bl _ => 1
  | .int _ => 1
  | .str _ => 1
  | .loc _ => 1
  | .exn .. => 1
def wts : List PV → Nat
  | [] => 0
  | x :: xs => wt x + wts xs
end
theorem wts_app (a b : List PV) : wts (a ++ b) = wts a + wts b := by
  induction a with
  | nil => simp [wts]
  | cons x a ih => rw [List.cons_append, wts, wts, ih]; omega
theorem wt_pos (v : PV) : 1 ≤ wt v := by cases v <;> simp [wt]
theorem wts_len : ∀ xs : List PV, xs.length ≤ wts xs
  | [] => Nat.le_refl _
  | x :: xs => by
    have := wts_len xs
    have := wt_pos x
    rw [wts, List.length_cons]
    omega
theorem inner_wt {k : Int} {v : PV} {xs : List PV} (h : inner k v = some xs) : wts xs < wt v := by
  unfold inner at h
  split at h
  · split at h
    · cases h; simp [wt, wts]
    · cases h
  · split at h
    · cases h
      rw [wt, wts, wt]
      omega
    · cases h
  · cases h
theorem isTms_app (k : Int) (a b : List PV) : isTms k (a ++ b) = (isTms k a && isTms k b) := by
  induction a with
  | nil => simp [isTms]
  | cons x a ih => rw [List.cons_append, isTms, isTms, ih, Bool.and_assoc]
theorem inner_fit {k : Int} {v : PV} {xs : List PV} (h : inner k v = some xs) (n : Nat) (hf : fit (n + 1) v = true) : fits n xs = true := by
  unfold inner at h
  split at h
  · split at h
    · cases h; rfl
    · cases h
  · split at h
    · cases h
      rename_i w _
      have hf : (fit n (.str w) && fits n xs) = true := hf
      rw [Bool.and_eq_true] at hf
      exact hf.2
    · cases h
  · cases h
mutual
theorem fit_up : ∀ (v : PV) (n m : Nat), n ≤ m → fit n v = true → fit m v = true
  | .tup xs, 0, _, _, h => by cases h
  | .tup xs, n + 1, 0, hl, _ => by omega
  | .tup xs, n + 1, m + 1, hl, h => fits_up xs n m (by omega) h
  | .lsv xs, 0, _, _, h => by cases h
  | .lsv xs, n + 1, 0, hl, _ => by omega
  | .lsv xs, n + 1, m + 1, hl, h => fits_up xs n m (by omega) h
  | .non, n, m, _, h => by cases m <;> rfl
  | .bl _, n, m, _, h => by cases m <;> rfl
  | .int _, n, m, _, h => by cases m <;> rfl
  | .str s, n, m, _, h => by rw [fit_str] at h ⊢; exact h
  | .loc _, n, m, _, h => by cases n <;> cases h
  | .exn .., n, m, _, h => by cases n <;> cases h
theorem fits_up : ∀ (xs : List PV) (n m : Nat), n ≤ m → fits n xs = true → fits m xs = true
  | [], _, _, _, _ => rfl
  | x :: xs, n, m, hl, h => by
    have h : (fit n x && fits n xs) = true := h
    rw [Bool.and_eq_true] at h
    show (fit m x && fits m xs) = true
    rw [fit_up x n m hl h.1, fits_up xs n m hl h.2]; rfl
end
mutual
theorem data_free : ∀ v : PV, v.data = true → v.free = true
  | .tup xs, h => data_frees xs h
  | .lsv xs, h => data_frees xs h
  | .non, _ => rfl
  | .bl _, _ => rfl
  | .int _, _ => rfl
  | .str _, _ => rfl
  | .loc _, h => by cases h
  | .exn .., h => by cases h
theorem data_frees : ∀ xs : List PV, dataAll xs = true → freeAll xs = true
  | [], _ => rfl
  | x :: xs, h => by
    have h : (x.data && dataAll xs) = true := h
    rw [Bool.and_eq_true] at h
    show (x.free && freeAll xs) = true
    rw [data_free x h.1, data_frees xs h.2]; rfl
end
theorem fit_data {v : PV} {n : Nat} (h : fit n v = true) : v.data = true := (fit_ok v n h).1
theorem fit_free {v : PV} {n : Nat} (h : fit n v = true) : v.free = true := data_free v (fit_data h)
/-- a tuple beside ("none",) -/
theorem eqv_none {st : Store} {xs : List PV} {w : Str} (h : fits 63 (.str w :: xs) = true) : eqvV st (.tup (.str w :: xs)) (.tup [.str "none"]) = some (decide (w = ("none" : Str)) && xs.isEmpty) := by
  rw [eqv_fit (show fit 64 (.tup (.str w :: xs)) = true from h) (by show (fit 63 (.str "none") && true) = true; rw [fit_str, ok_none]; rfl)]
  show some (PyData.eqvAll (.str w :: toDs xs) [.str "none"]) = _
  rw [PyData.eqvAll]
  have e1 : PyData.eqv (.str w) (.str "none") = decide (w = ("none" : Str)) := by
    show (w == ("none" : Str)) = _
    by_cases h : w = ("none" : Str)
    · subst h; simp
    · rw [decide_eq_false h]
      simpa using h
  rw [e1]
  cases xs <;> rfl
mutual
theorem isTm_enc : ∀ (t : Tm) (k m : Nat), wf m t = true → m ≤ k → isTm k (enc t) = true
  | .l n, k, m, h, hk => by
    have h : n < m := by simpa [wf] using h
    show decide (0 ≤ (n : Int) ∧ (n : Int) < k) = true
    exact decide_eq_true ⟨by omega, by omega⟩
  | .no, k, m, h, hk => by show (headOk "none" 0 && true) = true; decide +kernel
  | .th ts, k, m, h, hk => by
    simp only [wf, Bool.and_eq_true, decide_eq_true_eq] at h
    show (headOk "then" (encs ts).length && isTms k (encs ts)) = true
    rw [isTms_encs ts k m h.2 hk, encs_map, List.length_map]
    have : headOk "then" ts.length = decide (2 ≤ ts.length) := if_pos rfl
    rw [this, decide_eq_true h.1]; rfl
  | .on t, k, m, h, hk => by
    show (headOk "on" 1 && (isTm k (enc t) && true)) = true
    rw [isTm_enc t k m h hk]; decide +kernel
  | .bk t, k, m, h, hk => by
    show (headOk "back" 1 && (isTm k (enc t) && true)) = true
    rw [isTm_enc t k m h hk]; decide +kernel
theorem isTms_encs : ∀ (ts : List Tm) (k m : Nat), wfs m ts = true → m ≤ k → isTms k (encs ts) = true
  | [], _, _, _, _ => rfl
  | t :: ts, k, m, h, hk => by
    simp only [wfs, Bool.and_eq_true] at h
    show (isTm k (enc t) && isTms k (encs ts)) = true
    rw [isTm_enc t k m h.1 hk, isTms_encs ts k m h.2 hk]; rfl
end
mutual
/-- of k letters exactly if the greatest is below k -/
theorem isTm_lets : ∀ (t : Tm) (k : Int), wf 1000 t = true → isTm k (enc t) = (lets t).all fun n => decide ((n : Int) < k)
  | .l n, k, h => by
    show decide (0 ≤ (n : Int) ∧ (n : Int) < k) = (decide ((n : Int) < k) && true)
    rw [Bool.and_true]
    exact decide_eq_decide.mpr ⟨fun h => h.2, fun h => ⟨by omega, h⟩⟩
  | .no, k, h => by show (headOk "none" 0 && true) = true; decide +kernel
  | .th ts, k, h => by
    simp only [wf, Bool.and_eq_true, decide_eq_true_eq] at h
    show (headOk "then" (encs ts).length && isTms k (encs ts)) = (letss ts).all _
    rw [isTms_lets ts k h.2, encs_map, List.length_map]
    have : headOk "then" ts.length = decide (2 ≤ ts.length) := if_pos rfl
    rw [this, decide_eq_true h.1]; rfl
  | .on t, k, h => by
    show (headOk "on" 1 && (isTm k (enc t) && true)) = (lets t).all _
    rw [isTm_lets t k h, show headOk "on" 1 = true from by decide +kernel, Bool.true_and, Bool.and_true]
  | .bk t, k, h => by
    show (headOk "back" 1 && (isTm k (enc t) && true)) = (lets t).all _
    rw [isTm_lets t k h, show headOk "back" 1 = true from by decide +kernel, Bool.true_and, Bool.and_true]
theorem isTms_lets : ∀ (ts : List Tm) (k : Int), wfs 1000 ts = true → isTms k (encs ts) = (letss ts).all fun n => decide ((n : Int) < k)
  | [], _, _ => rfl
  | t :: ts, k, h => by
    simp only [wfs, Bool.and_eq_true] at h
    show (isTm k (enc t) && isTms k (encs ts)) = (lets t ++ letss ts).all _
    rw [isTm_lets t k h.1, isTms_lets ts k h.2, List.all_append]
end
mutual
theorem wt_enc : ∀ t : Tm, wt (enc t) + 1 ≤ 4 * sg t
  | .l _ => by show 1 + 1 ≤ 4 * 1; decide
  | .no => by show 1 + (1 + 0) + 1 ≤ 4 * 1; decide
  | .th ts => by
    have := wts_encs ts
    show 1 + (1 + wts (encs ts)) + 1 ≤ 4 * sg (.th ts)
    rw [sg]; omega
  | .on t => by
    have := wt_enc t
    show 1 + (1 + (wt (enc t) + 0)) + 1 ≤ 4 * sg (.on t)
    rw [sg]; omega
  | .bk t => by
    have := wt_enc t
    show 1 + (1 + (wt (enc t) + 0)) + 1 ≤ 4 * sg (.bk t)
    rw [sg]; omega
theorem wts_encs : ∀ ts : List Tm, wts (encs ts) ≤ 4 * sgs ts
  | [] => Nat.le_refl _
  | t :: ts => by
    have := wt_enc t
    have := wts_encs ts
    show wt (enc t) + wts (encs ts) ≤ 4 * sgs (t :: ts)
    rw [sgs]; omega
end
end L2.Tm

/-! TmP: defs about terms as terms of the language (printed by gen.py). Own work. -/
namespace L2.P
open PySem L2.Iv
def f_is_integer : Fn where
  ps := ["value"]
  N := ["value"]
  body := (.cons (.ret (.ands (.cons (.isi (.v 0) "int") (.cons (.nt (.isi (.v 0) "bool")) .nil)))) <|
  .nil)
  mt := false
def f_is_between : Fn where
  ps := ["value", "low", "high"]
  N := ["value", "low", "high"]
  body := (.cons (.ret (.ands (.cons (.call "is_integer" (.cons (.v 0) .nil)) (.cons (.chn .le .le (.v 1) (.v 0) (.v 2)) .nil)))) <|
  .nil)
  mt := false
def f_inner_of : Fn where
  ps := ["k", "told"]
  N := ["k", "told"]
  body := (.cons (.iff (.call "is_integer" (.cons (.v 1) .nil)) (.cons (.ret (.ite (.chn .le .lt (.c (.int 0)) (.v 1) (.v 0)) (.tup .nil) (.c .non))) <|
    .nil) (.nil)) <|
  .cons (.iff (.ors (.cons (.nt (.isi (.v 1) "tuple")) (.cons (.cmp .eq (.bi .len true (.cons (.v 1) .nil)) (.c (.int 0))) (.cons (.nt (.isi (.ix (.v 1) (.c (.int 0))) "str")) .nil)))) (.cons (.ret (.c .non)) <|
    .nil) (.nil)) <|
  .cons (.iff (.cmp .eq (.ix (.v 1) (.c (.int 0))) (.c (.str "then"))) (.cons (.ret (.ite (.cmp .gt (.bi .len true (.cons (.v 1) .nil)) (.c (.int 2))) (.slF true (.v 1) (.c (.int 1))) (.c .non))) <|
    .nil) (.nil)) <|
  .cons (.iff (.cmp .isin (.ix (.v 1) (.c (.int 0))) (.g "POWERS")) (.cons (.ret (.ite (.cmp .eq (.bi .len true (.cons (.v 1) .nil)) (.c (.int 2))) (.slF true (.v 1) (.c (.int 1))) (.c .non))) <|
    .nil) (.nil)) <|
  .cons (.ret (.ite (.cmp .eq (.v 1) (.g "NONE")) (.tup .nil) (.c .non))) <|
  .nil)
  mt := false
def f_is_term_of : Fn where
  ps := ["k", "told"]
  N := ["k", "told", "waiting", "inner"]
  body := (.cons (.asg (.p (.n 2)) (.lst false (.cons (.v 1) .nil))) <|
  .cons (.wh (.cmp .gt (.bi .len true (.cons (.v 2) .nil)) (.c (.int 0))) (.cons (.asg (.p (.n 3)) (.call "inner_of" (.cons (.v 0) (.cons (.me .pop 2 .nil) .nil)))) <|
    .cons (.iff (.cmp .is (.v 3) (.c .non)) (.cons (.ret (.c (.bl false))) <|
      .nil) (.nil)) <|
    .cons (.expr (.me .extend 2 (.cons (.v 3) .nil))) <|
    .nil)) <|
  .cons (.ret (.c (.bl true))) <|
  .nil)
  mt := false
def f_check_term : Fn where
  ps := ["k", "term"]
  N := ["k", "term"]
  body := (.cons (.iff (.nt (.call "is_term_of" (.cons (.v 0) (.cons (.v 1) .nil)))) (.cons (.rs "InvalidTerm" (.v 1)) <|
    .nil) (.nil)) <|
  .nil)
  mt := false
def f_check_letters : Fn where
  ps := ["k"]
  N := ["k"]
  body := (.cons (.iff (.nt (.call "is_between" (.cons (.v 0) (.cons (.c (.int 1)) (.cons (.g "MOST_LETTERS") .nil))))) (.cons (.rs "InvalidNumber" (.v 0)) <|
    .nil) (.nil)) <|
  .nil)
  mt := false
def f_parts_in : Fn where
  ps := ["term"]
  N := ["term"]
  body := (.cons (.ret (.ite (.call "is_integer" (.cons (.v 0) .nil)) (.tup .nil) (.slF true (.v 0) (.c (.int 1))))) <|
  .nil)
  mt := false
def f_signs_in : Fn where
  ps := ["term"]
  N := ["term", "part"]
  body := (.cons (.ret (.bin .add true (.c (.int 1)) (.bi .sum true (.cons (.lc true [1] (.n 1) (.val (.call "parts_in" (.cons (.v 0) .nil))) .nil (.call "signs_in" (.cons (.v 1) .nil))) .nil)))) <|
  .nil)
  mt := false
def f_size_of : Fn where
  ps := ["term"]
  N := ["term", "own", "part"]
  body := (.cons (.asg (.p (.n 1)) (.ite (.ors (.cons (.call "is_integer" (.cons (.v 0) .nil)) (.cons (.cmp .isin (.ix (.v 0) (.c (.int 0))) (.g "POWERS")) .nil))) (.c (.int 1)) (.c (.int 0)))) <|
  .cons (.ret (.bin .add true (.v 1) (.bi .sum true (.cons (.lc true [2] (.n 2) (.val (.call "parts_in" (.cons (.v 0) .nil))) .nil (.call "size_of" (.cons (.v 2) .nil))) .nil)))) <|
  .nil)
  mt := false
def f_has_place_in : Fn where
  ps := ["term"]
  N := ["term", "part"]
  body := (.cons (.ret (.ors (.cons (.call "is_integer" (.cons (.v 0) .nil)) (.cons (.bi .any true (.cons (.lc true [1] (.n 1) (.val (.call "parts_in" (.cons (.v 0) .nil))) .nil (.call "has_place_in" (.cons (.v 1) .nil))) .nil)) .nil)))) <|
  .nil)
  mt := false
def f_with_places : Fn where
  ps := ["parts"]
  N := ["parts", "part"]
  body := (.cons (.ret (.lc true [1] (.n 1) (.val (.v 0)) (.cons (.call "has_place_in" (.cons (.v 1) .nil)) .nil) (.v 1))) <|
  .nil)
  mt := false
def f_has_end_in : Fn where
  ps := ["term", "is_first"]
  N := ["term", "is_first", "parts"]
  body := (.cons (.iff (.call "is_integer" (.cons (.v 0) .nil)) (.cons (.ret (.c (.bl true))) <|
    .nil) (.nil)) <|
  .cons (.asg (.p (.n 2)) (.call "with_places" (.cons (.call "parts_in" (.cons (.v 0) .nil)) .nil))) <|
  .cons (.iff (.ors (.cons (.cmp .eq (.bi .len true (.cons (.v 2) .nil)) (.c (.int 0))) (.cons (.cmp .eq (.ix (.v 0) (.c (.int 0))) (.ite (.v 1) (.c (.str "back")) (.c (.str "on")))) .nil))) (.cons (.ret (.c (.bl false))) <|
    .nil) (.nil)) <|
  .cons (.ret (.call "has_end_in" (.cons (.ix (.v 2) (.ite (.v 1) (.c (.int 0)) (.neg (.c (.int 1))))) (.cons (.v 1) .nil)))) <|
  .nil)
  mt := false
def f_is_finite_in : Fn where
  ps := ["term"]
  N := ["term", "part"]
  body := (.cons (.iff (.call "is_integer" (.cons (.v 0) .nil)) (.cons (.ret (.c (.bl true))) <|
    .nil) (.nil)) <|
  .cons (.iff (.cmp .isin (.ix (.v 0) (.c (.int 0))) (.g "POWERS")) (.cons (.ret (.nt (.call "has_place_in" (.cons (.v 0) .nil)))) <|
    .nil) (.nil)) <|
  .cons (.ret (.bi .all true (.cons (.lc true [1] (.n 1) (.val (.call "parts_in" (.cons (.v 0) .nil))) .nil (.call "is_finite_in" (.cons (.v 1) .nil))) .nil))) <|
  .nil)
  mt := false
def f_word_in : Fn where
  ps := ["term"]
  N := ["term", "part", "letter"]
  body := (.cons (.iff (.call "is_integer" (.cons (.v 0) .nil)) (.cons (.ret (.tup (.cons (.v 0) .nil))) <|
    .nil) (.nil)) <|
  .cons (.iff (.cmp .isin (.ix (.v 0) (.c (.int 0))) (.g "POWERS")) (.cons (.ret (.tup .nil)) <|
    .nil) (.nil)) <|
  .cons (.ret (.bi .tuple true (.cons (.lc2 true [1, 2] (.n 1) (.val (.call "parts_in" (.cons (.v 0) .nil))) .nil [2] (.n 2) (.val (.call "word_in" (.cons (.v 1) .nil))) .nil (.v 2)) .nil))) <|
  .nil)
  mt := false
def f_turned_in : Fn where
  ps := ["term"]
  N := ["term", "parts", "part"]
  body := (.cons (.iff (.ors (.cons (.call "is_integer" (.cons (.v 0) .nil)) (.cons (.cmp .eq (.v 0) (.g "NONE")) .nil))) (.cons (.ret (.v 0)) <|
    .nil) (.nil)) <|
  .cons (.asg (.p (.n 1)) (.bi .tuple true (.cons (.lc true [2] (.n 2) (.val (.slF true (.v 0) (.c (.int 1)))) .nil (.call "turned_in" (.cons (.v 2) .nil))) .nil))) <|
  .cons (.iff (.cmp .eq (.ix (.v 0) (.c (.int 0))) (.c (.str "then"))) (.cons (.ret (.bin .add true (.tup (.cons (.c (.str "then")) .nil)) (.slR true (.v 1)))) <|
    .nil) (.nil)) <|
  .cons (.ret (.bin .add true (.tup (.cons (.ite (.cmp .eq (.ix (.v 0) (.c (.int 0))) (.c (.str "on"))) (.c (.str "back")) (.c (.str "on"))) .nil)) (.v 1))) <|
  .nil)
  mt := false
def f_replaced_in : Fn where
  ps := ["term", "terms"]
  N := ["term", "terms", "part"]
  body := (.cons (.iff (.call "is_integer" (.cons (.v 0) .nil)) (.cons (.ret (.ix (.v 1) (.v 0))) <|
    .nil) (.nil)) <|
  .cons (.ret (.bin .add true (.slT true (.v 0) (.c (.int 1))) (.bi .tuple true (.cons (.lc true [2] (.n 2) (.val (.slF true (.v 0) (.c (.int 1)))) .nil (.call "replaced_in" (.cons (.v 2) (.cons (.v 1) .nil)))) .nil)))) <|
  .nil)
  mt := false
def f_letters_in : Fn where
  ps := ["term"]
  N := ["term", "part", "letter"]
  body := (.cons (.iff (.call "is_integer" (.cons (.v 0) .nil)) (.cons (.ret (.lst true (.cons (.v 0) .nil))) <|
    .nil) (.nil)) <|
  .cons (.ret (.lc2 true [1, 2] (.n 1) (.val (.call "parts_in" (.cons (.v 0) .nil))) .nil [2] (.n 2) (.val (.call "letters_in" (.cons (.v 1) .nil))) .nil (.v 2))) <|
  .nil)
  mt := false
def f_is_term : Fn where
  ps := ["k", "told"]
  N := ["k", "told"]
  body := (.cons (.expr (.call "check_letters" (.cons (.v 0) .nil))) <|
  .cons (.ret (.call "is_term_of" (.cons (.v 0) (.cons (.v 1) .nil)))) <|
  .nil)
  mt := false
def f_signs : Fn where
  ps := ["term"]
  N := ["term"]
  body := (.cons (.expr (.call "check_term" (.cons (.g "MOST_LETTERS") (.cons (.v 0) .nil)))) <|
  .cons (.ret (.call "signs_in" (.cons (.v 0) .nil))) <|
  .nil)
  mt := false
def f_size : Fn where
  ps := ["term"]
  N := ["term"]
  body := (.cons (.expr (.call "check_term" (.cons (.g "MOST_LETTERS") (.cons (.v 0) .nil)))) <|
  .cons (.ret (.call "size_of" (.cons (.v 0) .nil))) <|
  .nil)
  mt := false
def f_has_place : Fn where
  ps := ["term"]
  N := ["term"]
  body := (.cons (.expr (.call "check_term" (.cons (.g "MOST_LETTERS") (.cons (.v 0) .nil)))) <|
  .cons (.ret (.call "has_place_in" (.cons (.v 0) .nil))) <|
  .nil)
  mt := false
def f_has_first : Fn where
  ps := ["term"]
  N := ["term"]
  body := (.cons (.expr (.call "check_term" (.cons (.g "MOST_LETTERS") (.cons (.v 0) .nil)))) <|
  .cons (.ret (.call "has_end_in" (.cons (.v 0) (.cons (.c (.bl true)) .nil)))) <|
  .nil)
  mt := false
def f_has_last : Fn where
  ps := ["term"]
  N := ["term"]
  body := (.cons (.expr (.call "check_term" (.cons (.g "MOST_LETTERS") (.cons (.v 0) .nil)))) <|
  .cons (.ret (.call "has_end_in" (.cons (.v 0) (.cons (.c (.bl false)) .nil)))) <|
  .nil)
  mt := false
def f_is_finite : Fn where
  ps := ["term"]
  N := ["term"]
  body := (.cons (.expr (.call "check_term" (.cons (.g "MOST_LETTERS") (.cons (.v 0) .nil)))) <|
  .cons (.ret (.call "is_finite_in" (.cons (.v 0) .nil))) <|
  .nil)
  mt := false
def f_word_of : Fn where
  ps := ["term"]
  N := ["term"]
  body := (.cons (.expr (.call "check_term" (.cons (.g "MOST_LETTERS") (.cons (.v 0) .nil)))) <|
  .cons (.iff (.nt (.call "is_finite_in" (.cons (.v 0) .nil))) (.cons (.rs "InvalidTerm" (.v 0)) <|
    .nil) (.nil)) <|
  .cons (.ret (.call "word_in" (.cons (.v 0) .nil))) <|
  .nil)
  mt := false
def f_turned : Fn where
  ps := ["term"]
  N := ["term"]
  body := (.cons (.expr (.call "check_term" (.cons (.g "MOST_LETTERS") (.cons (.v 0) .nil)))) <|
  .cons (.ret (.call "turned_in" (.cons (.v 0) .nil))) <|
  .nil)
  mt := false
def f_replaced : Fn where
  ps := ["term", "terms"]
  N := ["term", "terms", "own"]
  body := (.cons (.expr (.call "check_term" (.cons (.g "MOST_LETTERS") (.cons (.v 0) .nil)))) <|
  .cons (.iff (.ors (.cons (.nt (.isi (.v 1) "tuple")) (.cons (.nt (.bi .all true (.cons (.lc true [2] (.n 2) (.val (.v 1)) .nil (.call "is_term_of" (.cons (.g "MOST_LETTERS") (.cons (.v 2) .nil)))) .nil))) .nil))) (.cons (.rs "InvalidTerms" (.v 1)) <|
    .nil) (.nil)) <|
  .cons (.iff (.cmp .le (.bi .len true (.cons (.v 1) .nil)) (.bi .maxl true (.cons (.bin .add true (.call "letters_in" (.cons (.v 0) .nil)) (.lst true (.cons (.neg (.c (.int 1))) .nil))) .nil))) (.cons (.rs "InvalidTerms" (.v 1)) <|
    .nil) (.nil)) <|
  .cons (.ret (.call "replaced_in" (.cons (.v 0) (.cons (.v 1) .nil)))) <|
  .nil)
  mt := false
def gl_POWERS : PV := (.tup [(.str "on"), (.str "back")])
def gl_NONE : PV := (.tup [(.str "none")])
def gl_MOST_LETTERS : PV := (.int 4)
end L2.P

/-! TmE: what the defs about terms compute. Own work. -/
namespace L2.P
open PySem L2.Iv L2.Tm

@[simp] theorem ctx_gl (g : Sg) (cl : Str → Nat) (n : Nat) (x : Str) : (g.ctx cl n).gl x = g.gl.lookup x := rfl
@[simp] theorem ctx_ec (g : Sg) (cl : Str → Nat) (n : Nat) : (g.ctx cl n).ec = g.ecs := rfl
@[simp] theorem ctx_cl (g : Sg) (cl : Str → Nat) (n : Nat) : (g.ctx cl n).cl = cl := rfl
@[simp] theorem c_isN {st : Store} {v : PV} : cmpV .is st v .non = some (match v with | .non => true | _ => false) := by cases v <;> rfl
@[simp] theorem c_isnotN {st : Store} {v : PV} : cmpV .isnot st v .non = some (match v with | .non => false | _ => true) := by cases v <;> rfl
@[simp] theorem me_pop {st : Store} {k : Nat} : meV .pop st k [] = match st[k]? with
    | some xs => match xs[xs.length - 1]? with
      | some y => .ok y (st.set k xs.dropLast)
      | none => .bad
    | none => .bad := by
  cases h : st[k]? with
  | none => simp [meV, h]
  | some xs => simp only [meV, h] <;> (split <;> simp_all)
@[simp] theorem me_ext {st : Store} {k : Nat} {v : PV} : meV .extend st k [v] = match st[k]? with
    | some xs => match seqA st v with
      | some zs => if xs.length + zs.length ≤ sizeLine then .ok .non (st.set k (xs ++ zs)) else .bad
      | none => .bad
    | none => .bad := by
  cases h : st[k]? with
  | none => simp [meV, h]
  | some xs => simp only [meV, h] <;> (split <;> simp_all)

@[simp] theorem w_none_then : (("none" : Str) = ("then" : Str)) = False := eq_false (by decide +kernel)
@[simp] theorem b_none_then : (("none" : Str) == ("then" : Str)) = false := by decide +kernel
@[simp] theorem w_none_on : (("none" : Str) = ("on" : Str)) = False := eq_false (by decide +kernel)
@[simp] theorem b_none_on : (("none" : Str) == ("on" : Str)) = false := by decide +kernel
@[simp] theorem w_none_back : (("none" : Str) = ("back" : Str)) = False := eq_false (by decide +kernel)
@[simp] theorem b_none_back : (("none" : Str) == ("back" : Str)) = false := by decide +kernel
@[simp] theorem w_then_none : (("then" : Str) = ("none" : Str)) = False := eq_false (by decide +kernel)
@[simp] theorem b_then_none : (("then" : Str) == ("none" : Str)) = false := by decide +kernel
@[simp] theorem w_then_on : (("then" : Str) = ("on" : Str)) = False := eq_false (by decide +kernel)
@[simp] theorem b_then_on : (("then" : Str) == ("on" : Str)) = false := by decide +kernel
@[simp] theorem w_then_back : (("then" : Str) = ("back" : Str)) = False := eq_false (by decide +kernel)
@[simp] theorem b_then_back : (("then" : Str) == ("back" : Str)) = false := by decide +kernel
@[simp] theorem w_on_none : (("on" : Str) = ("none" : Str)) = False := eq_false (by decide +kernel)
@[simp] theorem b_on_none : (("on" : Str) == ("none" : Str)) = false := by decide +kernel
@[simp] theorem w_on_then : (("on" : Str) = ("then" : Str)) = False := eq_false (by decide +kernel)
@[simp] theorem b_on_then : (("on" : Str) == ("then" : Str)) = false := by decide +kernel
@[simp] theorem w_on_back : (("on" : Str) = ("back" : Str)) = False := eq_false (by decide +kernel)
@[simp] theorem b_on_back : (("on" : Str) == ("back" : Str)) = false := by decide +kernel
@[simp] theorem w_back_none : (("back" : Str) = ("none" : Str)) = False := eq_false (by decide +kernel)
@[simp] theorem b_back_none : (("back" : Str) == ("none" : Str)) = false := by decide +kernel
@[simp] theorem w_back_then : (("back" : Str) = ("then" : Str)) = False := eq_false (by decide +kernel)
@[simp] theorem b_back_then : (("back" : Str) == ("then" : Str)) = false := by decide +kernel
@[simp] theorem w_back_on : (("back" : Str) = ("on" : Str)) = False := eq_false (by decide +kernel)
@[simp] theorem b_back_on : (("back" : Str) == ("on" : Str)) = false := by decide +kernel
def At (g : Sg) (f : Str) (fn : Fn) : Prop := g.tb.lookup f = some fn
def Glb (g : Sg) (x : Str) (v : PV) : Prop := g.gl.lookup x = some v
@[simp] theorem sz_1 : (1 ≤ sizeLine) = True := eq_true (by decide)
@[simp] theorem sz_2 : (2 ≤ sizeLine) = True := eq_true (by decide)
@[simp] theorem sz_3 : (3 ≤ sizeLine) = True := eq_true (by decide)
@[simp] theorem sz_4 : (4 ≤ sizeLine) = True := eq_true (by decide)
@[simp] theorem sz_5 : (5 ≤ sizeLine) = True := eq_true (by decide)
@[simp] theorem sz_6 : (6 ≤ sizeLine) = True := eq_true (by decide)
@[simp] theorem sz_7 : (7 ≤ sizeLine) = True := eq_true (by decide)
@[simp] theorem sz_8 : (8 ≤ sizeLine) = True := eq_true (by decide)
@[simp] theorem sz_9 : (9 ≤ sizeLine) = True := eq_true (by decide)
@[simp] theorem sz_10 : (10 ≤ sizeLine) = True := eq_true (by decide)
@[simp] theorem sz_11 : (11 ≤ sizeLine) = True := eq_true (by decide)
@[simp] theorem sz_12 : (12 ≤ sizeLine) = True := eq_true (by decide)
@[simp] theorem sz_13 : (13 ≤ sizeLine) = True := eq_true (by decide)
@[simp] theorem sz_14 : (14 ≤ sizeLine) = True := eq_true (by decide)
@[simp] theorem sz_15 : (15 ≤ sizeLine) = True := eq_true (by decide)
@[simp] theorem sz_16 : (16 ≤ sizeLine) = True := eq_true (by decide)
@[simp] theorem sz_17 : (17 ≤ sizeLine) = True := eq_true (by decide)
@[simp] theorem sz_18 : (18 ≤ sizeLine) = True := eq_true (by decide)
@[simp] theorem sz_19 : (19 ≤ sizeLine) = True := eq_true (by decide)
@[simp] theorem sz_20 : (20 ≤ sizeLine) = True := eq_true (by decide)
@[simp] theorem sz_21 : (21 ≤ sizeLine) = True := eq_true (by decide)
@[simp] theorem sz_22 : (22 ≤ sizeLine) = True := eq_true (by decide)
@[simp] theorem sz_23 : (23 ≤ sizeLine) = True := eq_true (by decide)
@[simp] theorem sz_24 : (24 ≤ sizeLine) = True := eq_true (by decide)
@[simp] theorem sz_25 : (25 ≤ sizeLine) = True := eq_true (by decide)
@[simp] theorem sz_26 : (26 ≤ sizeLine) = True := eq_true (by decide)
@[simp] theorem sz_27 : (27 ≤ sizeLine) = True := eq_true (by decide)
@[simp] theorem sz_28 : (28 ≤ sizeLine) = True := eq_true (by decide)
@[simp] theorem sz_29 : (29 ≤ sizeLine) = True := eq_true (by decide)
@[simp] theorem sz_30 : (30 ≤ sizeLine) = True := eq_true (by decide)
section
variable {g : Sg} {cl : Str → Nat} {n : Nat} {st : Store} {v : PV}
theorem e_is_integer (h : At g "is_integer" f_is_integer) (hv : v.data = true) : (g.ctx cl (n + 1)).fn "is_integer" [v] st = .ok (.bl (isInt v)) st := by
  refine fn_eq h rfl rfl (by simp [freeAll, data_free v hv]) ?_
  cases v <;> first | (cases hv; done) | simp [f_is_integer, env0, wp_ss, isInt]
def btw (lo hi : Int) : PV → Bool
  | .int i => decide (lo ≤ i ∧ i ≤ hi)
  | _ => false
theorem e_is_between (h : At g "is_between" f_is_between) (h1 : At g "is_integer" f_is_integer) (hv : v.data = true) {lo hi : Int} :
    (g.ctx cl (n + 2)).fn "is_between" [v, .int lo, .int hi] st = .ok (.bl (btw lo hi v)) st := by
  refine fn_eq h rfl rfl (by simp [freeAll, data_free v hv, PV.free]) ?_
  have ei := e_is_integer (cl := cl) (n := n) (st := []) h1 hv
  cases v <;> first | (cases hv; done) | skip
  case int i =>
    by_cases h0 : lo ≤ i
    · simp [f_is_between, env0, wp_ss, ei, isInt, h0, btw]
    · simp [f_is_between, env0, wp_ss, ei, isInt, h0, btw]
  all_goals simp [f_is_between, env0, wp_ss, ei, isInt, btw]
@[simp] theorem len_ne {α : Type} (l : List α) : ((l.length : Int) + 1 == 0) = false := by simp; omega
@[simp] theorem len_ne2 {α : Type} (l : List α) : ((l.length : Int) + 1 + 1 == 0) = false := by simp; omega
@[simp] theorem frz_t0 (m : Nat) (s : Store) : frz m s 64 (.tup []) = some (.tup []) := frz_free rfl
theorem headOk_then (r : List PV) : headOk "then" r.length = decide (2 ≤ r.length) := if_pos rfl
theorem headOk_pow {w : Str} (h1 : ¬ w = ("then" : Str)) (h2 : w = ("on" : Str) ∨ w = ("back" : Str)) (r : List PV) : headOk w r.length = decide (r.length = 1) := by
  unfold headOk
  rw [if_neg h1, if_pos h2]
theorem headOk_oth {w : Str} (h1 : ¬ w = ("then" : Str)) (h2 : ¬ (w = ("on" : Str) ∨ w = ("back" : Str))) (r : List PV) : headOk w r.length = (decide (w = ("none" : Str)) && r.isEmpty) := by
  unfold headOk
  rw [if_neg h1, if_neg h2]
  cases r <;> rfl
theorem pow_in {w : Str} : inP (.str w) [.str "on", .str "back"] = decide (w = ("on" : Str) ∨ w = ("back" : Str)) := by
  unfold inP
  simp only [List.any_cons, List.any_nil, Bool.or_false, toV]
  have e : ∀ x : Str, eqV (.str x) (.str w) = decide (w = x) := fun x => by
    show (x == w) = _
    by_cases h : w = x
    · subst h; simp
    · rw [decide_eq_false h]
      simpa using fun z => h z.symm
  rw [e, e]
  by_cases h1 : w = ("on" : Str)
  · simp [h1]
  · simp [h1]
theorem e_inner_of (h : At g "inner_of" f_inner_of) (h1 : At g "is_integer" f_is_integer) (h2 : Glb g "POWERS" gl_POWERS) (h3 : Glb g "NONE" gl_NONE) {k : Int} (hv : fit 64 v = true) (hl : wt v ≤ sizeLine) :
    (g.ctx cl (n + 2)).fn "inner_of" [.int k, v] st = .ok (match inner k v with | some xs => .tup xs | none => .non) st := by
  have hd := fit_data hv
  have h2 : List.lookup ("POWERS" : Str) g.gl = some gl_POWERS := h2
  have h3 : List.lookup ("NONE" : Str) g.gl = some gl_NONE := h3
  refine fn_eq h rfl rfl (by simp [freeAll, data_free v hd, PV.free]) ?_
  have ei := e_is_integer (cl := cl) (n := n) (st := []) h1 hd
  cases v <;> first | (cases hd; done) | skip
  case int i =>
    by_cases h0 : 0 ≤ i
    · by_cases h4 : i < k
      · simp [f_inner_of, env0, wp_ss, ei, isInt, h0, h4, inner, freeAll, frz_free, PV.free]
      · simp [f_inner_of, env0, wp_ss, ei, isInt, h0, h4, inner]
    · simp [f_inner_of, env0, wp_ss, ei, isInt, h0, inner]
  case tup xs =>
    match xs, hv, hl, ei with
    | [], hv, hl, ei => simp [f_inner_of, env0, wp_ss, ei, isInt, inner]
    | .str w :: r, hv, hl, ei =>
      have hf : fits 63 (.str w :: r) = true := hv
      have hr : fits 63 r = true := by
        have hf : (fit 63 (.str w) && fits 63 r) = true := hf
        rw [Bool.and_eq_true] at hf
        exact hf.2
      have fr : freeAll r = true := data_frees r (fits_ok r 63 hr).1
      have fz : frz 0 [] 64 (.tup r) = some (.tup r) := frz_free fr
      have hn : ((r.length : Int) + 1 == 0) = false := len_ne r
      by_cases w1 : w = ("then" : Str)
      · subst w1
        by_cases l2 : 2 ≤ r.length
        · have l3 : (2 : Int) < (r.length : Int) + 1 := by omega
          simp [f_inner_of, env0, wp_ss, ei, isInt, inner, headOk_then, l2, l3, fz, hn]
        · have l3 : ¬ (2 : Int) < (r.length : Int) + 1 := by omega
          simp [f_inner_of, env0, wp_ss, ei, isInt, inner, headOk_then, l2, l3, hn]
      · have b1 : (w == ("then" : Str)) = false := by simpa using w1
        by_cases w2 : w = ("on" : Str) ∨ w = ("back" : Str)
        · have ho := headOk_pow w1 w2 r
          by_cases l2 : r.length = 1
          · rw [l2] at ho
            simp [f_inner_of, env0, wp_ss, ei, isInt, inner, ho, l2, b1, h2, gl_POWERS, cmpV, pow_in, w2, flatP, fz]
          · have l3 : ((r.length : Int) + 1 == 2) = false := by simp; omega
            simp [f_inner_of, env0, wp_ss, ei, isInt, inner, headOk_pow w1 w2, l2, l3, b1, h2, gl_POWERS, cmpV, pow_in, w2, flatP, hn]
        · have en := eqv_none (st := []) hf
          have ho := headOk_oth w1 w2 r
          by_cases w3 : w = ("none" : Str)
          · subst w3
            rw [decide_eq_true rfl, Bool.true_and] at ho en
            cases r with
            | nil =>
              simp only [List.length_nil, List.isEmpty_nil] at ho en
              simp [f_inner_of, env0, wp_ss, ei, isInt, inner, ho, b1, h2, h3, gl_POWERS, gl_NONE, cmpV, pow_in, w2, flatP, hn, en]
            | cons x r =>
              simp only [List.isEmpty_cons, List.length_cons] at ho en
              simp [f_inner_of, env0, wp_ss, ei, isInt, inner, ho, b1, h2, h3, gl_POWERS, gl_NONE, cmpV, pow_in, w2, flatP, hn, en]
          · simp [f_inner_of, env0, wp_ss, ei, isInt, inner, ho, b1, h2, h3, gl_POWERS, gl_NONE, cmpV, pow_in, w2, flatP, hn, en, w3]
    | .int _ :: _, hv, hl, ei => simp [f_inner_of, env0, wp_ss, ei, isInt, inner]
    | .non :: _, hv, hl, ei => simp [f_inner_of, env0, wp_ss, ei, isInt, inner]
    | .bl _ :: _, hv, hl, ei => simp [f_inner_of, env0, wp_ss, ei, isInt, inner]
    | .tup _ :: _, hv, hl, ei => simp [f_inner_of, env0, wp_ss, ei, isInt, inner]
    | .lsv _ :: _, hv, hl, ei => simp [f_inner_of, env0, wp_ss, ei, isInt, inner]
  all_goals simp [f_inner_of, env0, wp_ss, ei, isInt, inner]
theorem last_split (x : PV) (ws : List PV) : ∃ l y, x :: ws = l ++ [y] := ⟨(x :: ws).dropLast, (x :: ws).getLast (by simp), (List.dropLast_concat_getLast (by simp)).symm⟩
theorem e_is_term_of (h : At g "is_term_of" f_is_term_of) (h0 : At g "inner_of" f_inner_of) (h1 : At g "is_integer" f_is_integer) (h2 : Glb g "POWERS" gl_POWERS) (h3 : Glb g "NONE" gl_NONE) {k : Int} (hv : fit 64 v = true) (hl : wt v ≤ 1000000) :
    (g.ctx cl (n + 3)).fn "is_term_of" [.int k, v] st = .ok (.bl (isTm k v)) st := by
  have hd := fit_data hv
  refine fn_eq h rfl rfl (by simp [freeAll, data_free v hd, PV.free]) ?_
  simp only [f_is_term_of, env0]
  rw [wp_ss]
  simp
  rw [wp_ss, r_swh]
  have big : 1000000 ≤ sizeLine := by decide
  obtain ⟨I, hI⟩ : ∃ I : Nat → Iv.Env → Store → Prop, I = fun m env st' => ∃ ws u, env = [some (.int k), some v, some (.loc 0), u] ∧ st' = [ws] ∧ wts ws = m ∧ isTms k ws = isTm k v ∧ fits 64 ws = true ∧ m ≤ 1000000 := ⟨_, rfl⟩
  refine wp_while I ?_ wfuel (wt v) _ _ (by show wt v < 1000000000; omega) (by rw [hI]; exact ⟨[v], none, rfl, rfl, by simp [wts], by simp [isTms], by show (fit 64 v && true) = true; rw [hv]; rfl, hl⟩)
  intro m env st' hh
  rw [hI] at hh
  obtain ⟨ws, u, rfl, rfl, hm, ht, hf, hb⟩ := hh
  cases ws with
  | nil =>
    have ht : isTm k v = true := ht.symm
    simp
    rw [wp_ss]
    simp [ht]
  | cons x ws =>
    obtain ⟨l, y, e⟩ := last_split x ws
    rw [e] at hm ht hf ⊢
    have hy : fit 64 y = true := by
      rw [fits_all, List.all_append, Bool.and_eq_true] at hf
      have := hf.2
      simpa using this
    have hfl : fits 64 l = true := by
      rw [fits_all, List.all_append, Bool.and_eq_true] at hf
      rw [fits_all]; exact hf.1
    rw [wts_app] at hm
    have hwy : wts [y] = wt y := by simp [wts]
    rw [hwy] at hm
    have hpos := wt_pos y
    have ei := fun st => e_inner_of (cl := cl) (n := n) (st := st) (k := k) h0 h1 h2 h3 hy (by omega : wt y ≤ sizeLine)
    rw [isTms_app] at ht
    have hiy : isTms k [y] = isTm k y := by simp [isTms]
    rw [hiy, isTm_inner k y] at ht
    have hlen := wts_len l
    simp
    rw [wp_ss]
    simp [ei]
    rw [wp_ss]
    cases hin : inner k y with
    | none =>
      rw [hin] at ht
      simp [wp_ss]
      simpa using ht
    | some zs =>
      rw [hin] at ht
      have hz := inner_wt hin
      have hzl := wts_len zs
      simp
      rw [wp_ss]
      simp
      refine ⟨by omega, ?_⟩
      rw [hI]
      refine ⟨wts (l ++ zs), by rw [wts_app]; omega, l ++ zs, _, rfl, rfl, rfl, by rw [isTms_app]; exact ht, ?_, by rw [wts_app]; omega⟩
      rw [fits_all, List.all_append, Bool.and_eq_true]
      rw [fits_all] at hfl
      refine ⟨hfl, ?_⟩
      have := inner_fit hin 63 hy
      rw [← fits_all]
      exact fits_up zs 63 64 (by omega) this
end
end L2.P

/-! TmF: more of what the defs about terms compute. Own work. -/
namespace L2.P
open PySem L2.Iv L2.Tm
structure HasTm (g : Sg) : Prop where
  i1 : At g "is_integer" f_is_integer
  i2 : At g "inner_of" f_inner_of
  i3 : At g "is_term_of" f_is_term_of
  gP : Glb g "POWERS" gl_POWERS
  gN : Glb g "NONE" gl_NONE
def Ec (g : Sg) (c : Str) : Prop := (g.ecs.lookup c).isSome = true
section
variable {g : Sg} {cl : Str → Nat} {n : Nat} {st : Store} {v : PV}
theorem e_check_term (h : At g "check_term" f_check_term) (T : HasTm g) (he : Ec g "InvalidTerm") {k : Int} (hv : fit 64 v = true) (hl : wt v ≤ 1000000) :
    (g.ctx cl (n + 4)).fn "check_term" [.int k, v] st = if isTm k v = true then .ok .non st else .exc "InvalidTerm" v st := by
  have hd := fit_data hv
  have fr : freeAll [.int k, v] = true := by simp [freeAll, data_free v hd, PV.free]
  have ei := fun st => e_is_term_of (cl := cl) (n := n) (st := st) (k := k) T.i3 T.i2 T.i1 T.gP T.gN hv hl
  have he : (g.ecs.lookup ("InvalidTerm" : Str)).isSome = true := he
  by_cases ht : isTm k v = true
  · rw [if_pos ht]
    refine fn_eq h rfl rfl fr ?_
    simp [f_check_term, env0, wp_ss, ei, ht]
  · rw [if_neg ht]
    refine fn_exc h rfl fr ?_
    have ht : isTm k v = false := by simpa using ht
    simp [f_check_term, env0, wp_ss, ei, ht, he, frz_free (data_free v hd)]
theorem e_check_letters (h : At g "check_letters" f_check_letters) (h1 : At g "is_between" f_is_between) (h2 : At g "is_integer" f_is_integer) (hM : Glb g "MOST_LETTERS" gl_MOST_LETTERS) (he : Ec g "InvalidNumber") (hd : v.data = true) :
    (g.ctx cl (n + 3)).fn "check_letters" [v] st = if btw 1 4 v = true then .ok .non st else .exc "InvalidNumber" v st := by
  have fr : freeAll [v] = true := by simp [freeAll, data_free v hd]
  have ei := fun st => e_is_between (cl := cl) (n := n) (st := st) (lo := 1) (hi := 4) h1 h2 hd
  have he : (g.ecs.lookup ("InvalidNumber" : Str)).isSome = true := he
  have hM : g.gl.lookup ("MOST_LETTERS" : Str) = some (.int 4) := hM
  by_cases ht : btw 1 4 v = true
  · rw [if_pos ht]
    refine fn_eq h rfl rfl fr ?_
    simp [f_check_letters, env0, wp_ss, ei, hM, ht]
  · rw [if_neg ht]
    refine fn_exc h rfl fr ?_
    have ht : btw 1 4 v = false := by simpa using ht
    simp only [f_check_letters, env0]
    simp [wp_ss, ei, hM, ht, he, frz_free (data_free v hd)]
/-- the parts of a term -/
def prts : Tm → List Tm
  | .l _ => []
  | .no => []
  | .th ts => ts
  | .on t => [t]
  | .bk t => [t]
theorem e_parts_in (h : At g "parts_in" f_parts_in) (h1 : At g "is_integer" f_is_integer) (t : Tm) (hd : dep t ≤ 64) : (g.ctx cl (n + 2)).fn "parts_in" [enc t] st = .ok (.tup (encs (prts t))) st := by
  have hf := fit_data (fit_enc t 64 hd)
  refine fn_eq h rfl rfl (by simp [freeAll, data_free _ hf]) ?_
  have ei := fun st => e_is_integer (cl := cl) (n := n) (st := st) h1 hf
  cases t with
  | th ts =>
    have fz : frz 0 [] 64 (.tup (encs ts)) = some (.tup (encs ts)) := frz_free (free_encs ts)
    simp only [enc] at ei ⊢
    simp [f_parts_in, env0, wp_ss, ei, isInt, prts, fz]
  | on t =>
    have fz : frz 0 [] 64 (.tup [enc t]) = some (.tup [enc t]) := frz_free (by show freeAll [enc t] = true; simp [freeAll, free_enc])
    simp only [enc] at ei ⊢
    simp [f_parts_in, env0, wp_ss, ei, isInt, prts, encs, fz]
  | bk t =>
    have fz : frz 0 [] 64 (.tup [enc t]) = some (.tup [enc t]) := frz_free (by show freeAll [enc t] = true; simp [freeAll, free_enc])
    simp only [enc] at ei ⊢
    simp [f_parts_in, env0, wp_ss, ei, isInt, prts, encs, fz]
  | _ =>
    simp only [enc] at ei ⊢
    simp [f_parts_in, env0, wp_ss, ei, isInt, prts, encs]
theorem prts_dep {t u : Tm} (h : u ∈ prts t) : dep u < dep t := by
  cases t with
  | th ts => have : dep u ≤ deps ts := mem_dep h; rw [dep]; omega
  | on t => simp only [prts, List.mem_singleton] at h; subst h; rw [dep]; omega
  | bk t => simp only [prts, List.mem_singleton] at h; subst h; rw [dep]; omega
  | _ => cases h
theorem prts_len (t : Tm) : (prts t).length ≤ sg t := by
  cases t with
  | th ts => have := sgs_len ts; rw [sg]; show ts.length ≤ _; omega
  | on t => have := sg_pos t; rw [sg]; show 1 ≤ _; omega
  | bk t => have := sg_pos t; rw [sg]; show 1 ≤ _; omega
  | _ => exact Nat.zero_le _
theorem sg_prts (t : Tm) : sg t = 1 + sgs (prts t) := by cases t <;> simp [sg, sgs, prts]
theorem sgs_prts (t : Tm) : sgs (prts t) < sg t := by rw [sg_prts t]; omega
theorem prts_sg {t u : Tm} (h : u ∈ prts t) : sg u < sg t := by have := mem_sg h; have := sgs_prts t; omega
theorem sz_prts (t : Tm) : sz t = (match t with | .l _ => 1 | .on _ => 1 | .bk _ => 1 | _ => 0) + szs (prts t) := by cases t <;> simp [sz, szs, prts]
theorem lets_prts (t : Tm) : lets t = (match t with | .l n => [n] | _ => []) ++ letss (prts t) := by cases t <;> simp [lets, letss, prts]
theorem sum_cast {α : Type} (f : α → Nat) : ∀ l : List α, (l.map fun x => (f x : Int)).sum = ((l.map f).sum : Nat)
  | [] => rfl
  | x :: l => by
    rw [List.map_cons, List.sum_cons, List.map_cons, List.sum_cons, sum_cast f l]
    omega
theorem e_signs_in (h : At g "signs_in" f_signs_in) (h0 : At g "parts_in" f_parts_in) (h1 : At g "is_integer" f_is_integer) : ∀ (n : Nat) (t : Tm), dep t ≤ n → dep t ≤ 64 → sg t ≤ sizeLine →
    ∀ st, (g.ctx cl (n + 3)).fn "signs_in" [enc t] st = .ok (.int (sg t)) st := by
  intro n
  induction n with
  | zero =>
    intro t hd hd2 hl st
    refine fn_eq h rfl rfl (by simp [freeAll, free_enc]) ?_
    have ep := fun st => e_parts_in (cl := cl) (n := 0) (st := st) h0 h1 t hd2
    have : prts t = [] := by cases t <;> simp [dep] at hd ⊢ <;> rfl
    rw [this] at ep
    simp [f_signs_in, env0, wp_ss, ep, encs, compF, intsOf, sg_prts t, this, sgs]
  | succ n ih =>
    intro t hd hd2 hl st
    refine fn_eq h rfl rfl (by simp [freeAll, free_enc]) ?_
    have ep := fun st => e_parts_in (cl := cl) (n := n + 1) (st := st) h0 h1 t hd2
    simp [f_signs_in, env0, wp_ss, ep, encs_map]
    rw [comp_map (o := fun t => .int (sg t)) (prts t) (by simp) (fun x hx => by
      have h2 := prts_dep hx
      have h3 := prts_sg hx
      simp [ih x (by omega) (by omega) (by omega)]) (Nat.le_trans (prts_len t) hl)]
    simp [ints_map, sg_prts t, sgs_sum, sum_cast]
theorem e_size_of (h : At g "size_of" f_size_of) (h0 : At g "parts_in" f_parts_in) (h1 : At g "is_integer" f_is_integer) (hP : Glb g "POWERS" gl_POWERS) : ∀ (n : Nat) (t : Tm), dep t ≤ n → dep t ≤ 64 → sg t ≤ sizeLine →
    ∀ st, (g.ctx cl (n + 3)).fn "size_of" [enc t] st = .ok (.int (sz t)) st := by
  have hP : g.gl.lookup ("POWERS" : Str) = some (.tup [.str "on", .str "back"]) := hP
  have one : ∀ (n : Nat) (t : Tm) (st : Store), dep t ≤ 64 → evE (g.ctx cl (n + 2)) (.ite (.ors (.cons (.call "is_integer" (.cons (.v 0) .nil)) (.cons (.cmp .isin (.ix (.v 0) (.c (.int 0))) (.g "POWERS")) .nil))) (.c (.int 1)) (.c (.int 0))) [some (enc t), none, none] st = .ok (.int (match t with | .l _ => 1 | .on _ => 1 | .bk _ => 1 | _ => 0)) st := by
    intro n t st hd2
    have ei := fun st => e_is_integer (cl := cl) (n := n + 1) (st := st) h1 (fit_data (fit_enc t 64 hd2))
    cases t with
    | l n => simp only [enc] at ei ⊢; simp [ei, isInt]
    | no => simp only [enc] at ei ⊢; simp [ei, isInt, hP, cmpV, pow_in, flatP]
    | th ts => simp only [enc] at ei ⊢; simp [ei, isInt, hP, cmpV, pow_in, flatP]
    | on ts => simp only [enc] at ei ⊢; simp [ei, isInt, hP, cmpV, pow_in, flatP]
    | bk ts => simp only [enc] at ei ⊢; simp [ei, isInt, hP, cmpV, pow_in, flatP]
  intro n
  induction n with
  | zero =>
    intro t hd hd2 hl st
    refine fn_eq h rfl rfl (by simp [freeAll, free_enc]) ?_
    have ep := fun st => e_parts_in (cl := cl) (n := 0) (st := st) h0 h1 t hd2
    have e0 : prts t = [] := by cases t <;> simp [dep] at hd ⊢ <;> rfl
    rw [e0] at ep
    simp only [f_size_of, env0]
    rw [wp_ss, r_sasg]
    simp only [List.map_cons, List.map_nil, List.length_cons, List.length_nil, List.replicate, List.cons_append, List.nil_append]
    rw [one 0 t _ hd2]
    simp [wp_ss, ep, encs, compF, intsOf, sz_prts t, e0, szs]
    cases t <;> rfl
  | succ n ih =>
    intro t hd hd2 hl st
    refine fn_eq h rfl rfl (by simp [freeAll, free_enc]) ?_
    have ep := fun st => e_parts_in (cl := cl) (n := n + 1) (st := st) h0 h1 t hd2
    simp only [f_size_of, env0]
    rw [wp_ss, r_sasg]
    simp only [List.map_cons, List.map_nil, List.length_cons, List.length_nil, List.replicate, List.cons_append, List.nil_append]
    rw [one (n + 1) t _ hd2]
    simp [wp_ss, ep, encs_map]
    rw [comp_map (o := fun t => .int (sz t)) (prts t) (by simp) (fun x hx => by
      have h2 := prts_dep hx
      have h3 := prts_sg hx
      simp [ih x (by omega) (by omega) (by omega)]) (Nat.le_trans (prts_len t) hl)]
    simp [ints_map, sz_prts t, szs_sum, sum_cast]
    cases t <;> rfl
theorem e_is_term (h : At g "is_term" f_is_term) (T : HasTm g) (h0 : At g "check_letters" f_check_letters) (h1 : At g "is_between" f_is_between) (hM : Glb g "MOST_LETTERS" gl_MOST_LETTERS) (he : Ec g "InvalidNumber") {k : PV} (hk : k.data = true) (hv : fit 64 v = true) (hl : wt v ≤ 1000000) :
    (g.ctx cl (n + 4)).fn "is_term" [k, v] st = match k with
      | .int i => if 1 ≤ i ∧ i ≤ 4 then .ok (.bl (isTm i v)) st else .exc "InvalidNumber" k st
      | _ => .exc "InvalidNumber" k st := by
  have hd := fit_data hv
  have fr : freeAll [k, v] = true := by simp [freeAll, data_free v hd, data_free k hk]
  have ec := fun st => e_check_letters (cl := cl) (n := n) (st := st) (v := k) h0 h1 T.i1 hM he hk
  have bad : btw 1 4 k = false → (g.ctx cl (n + 4)).fn "is_term" [k, v] st = .exc "InvalidNumber" k st := fun hb => by
    refine fn_exc h rfl fr ?_
    simp [f_is_term, env0, wp_ss, ec, hb, frz_free (data_free k hk)]
  cases k <;> first | (cases hk; done) | (exact bad rfl; done) | skip
  rename_i i
  by_cases hi : 1 ≤ i ∧ i ≤ 4
  · have ei := fun st => e_is_term_of (cl := cl) (n := n) (st := st) (k := i) T.i3 T.i2 T.i1 T.gP T.gN hv hl
    have hb : btw 1 4 (.int i) = true := decide_eq_true hi
    simp only [if_pos hi]
    refine fn_eq h rfl rfl fr ?_
    simp [f_is_term, env0, wp_ss, ec, hb, ei]
  · simp only [if_neg hi]
    exact bad (decide_eq_false hi)
end
end L2.P

/-! TvP: defs that several laws share (k18 .. k33, k77 .. k97), as terms of the language. Printed, own work. -/
namespace L2.V
open PySem L2.Iv
def f__law_mixed : Fn where
  ps := ["number", "turn"]
  N := ["number", "turn", "one", "two"]
  body := (.cons (.asg (.p (.n 2)) (.bin .mod true (.bi .int true (.cons (.bin .add true (.bin .add true (.bin .add true (.bin .mul true (.v 0) (.c (.int 48271))) (.bin .mul true (.bin .mul true (.v 1) (.v 1)) (.c (.int 69621)))) (.bin .mul true (.v 1) (.c (.int 7919)))) (.c (.int 12345))) .nil)) (.c (.int 2147483629)))) <|
  .cons (.asg (.p (.n 3)) (.bin .mod true (.bi .int true (.cons (.bin .add true (.bin .add true (.bin .add true (.bin .mul true (.v 2) (.v 2)) (.bin .mul true (.c (.int 40692)) (.v 2))) (.bin .mul true (.v 1) (.c (.int 104729)))) (.c (.int 1))) .nil)) (.c (.int 2147483587)))) <|
  .cons (.ret (.bin .mod true (.bi .int true (.cons (.bin .add true (.bin .mul true (.v 3) (.c (.int 16807))) (.v 2)) .nil)) (.c (.int 1000000007)))) <|
  .nil)
  mt := false
def f__law_source : Fn where
  ps := ["script"]
  N := ["script"]
  body := (.cons (.ret (.lst false (.cons (.bi .list true (.cons (.v 0) .nil)) (.cons (.c (.int 0)) (.cons (.c (.int 0)) (.cons (.c (.int 0)) (.cons (.c (.int 0)) .nil))))))) <|
  .nil)
  mt := true
def f__law_draw : Fn where
  ps := ["source", "many"]
  N := ["source", "many", "cell", "found"]
  body := (.cons (.iff (.ands (.cons (.cmp .eq (.ix (.v 0) (.c (.int 2))) (.c (.int 0))) (.cons (.cmp .lt (.ix (.v 0) (.c (.int 1))) (.bi .len true (.cons (.ix (.v 0) (.c (.int 0))) .nil))) .nil))) (.cons (.asg (.p (.n 2)) (.ix (.ix (.v 0) (.c (.int 0))) (.ix (.v 0) (.c (.int 1))))) <|
    .cons (.asg (.sub (.v 0) (.c (.int 1))) (.bin .add true (.ix (.v 0) (.c (.int 1))) (.c (.int 1)))) <|
    .cons (.asg (.sub (.v 0) (.c (.int 4))) (.bin .mod true (.bi .int true (.cons (.bin .add true (.bin .mul true (.ix (.v 0) (.c (.int 4))) (.c (.int 31))) (.v 2)) .nil)) (.c (.int 1000000009)))) <|
    .cons (.iff (.cmp .ge (.v 2) (.bin .pow true (.c (.int 10)) (.c (.int 18)))) (.cons (.asg (.sub (.v 0) (.c (.int 2))) (.v 2)) <|
      .nil) (.nil)) <|
    .nil) (.nil)) <|
  .cons (.asg (.sub (.v 0) (.c (.int 3))) (.bin .add true (.ix (.v 0) (.c (.int 3))) (.c (.int 1)))) <|
  .cons (.iff (.cmp .gt (.ix (.v 0) (.c (.int 2))) (.c (.int 0))) (.cons (.asg (.p (.n 3)) (.bin .mod true (.bi .int true (.cons (.ix (.v 0) (.c (.int 2))) .nil)) (.v 1))) <|
    .cons (.asg (.sub (.v 0) (.c (.int 2))) (.bin .fdiv true (.ix (.v 0) (.c (.int 2))) (.v 1))) <|
    .cons (.ret (.v 3)) <|
    .nil) (.nil)) <|
  .cons (.ret (.bin .mod true (.bi .int true (.cons (.call "_law_mixed" (.cons (.ix (.v 0) (.c (.int 4))) (.cons (.ix (.v 0) (.c (.int 3))) .nil))) .nil)) (.v 1))) <|
  .nil)
  mt := false
end L2.V

/-! TvB: numbers drawn from a script that is read cell by cell. Own work. -/
namespace L2.V
open PySem L2.Iv L2.Tm
def At (g : Sg) (f : Str) (fn : Fn) : Prop := g.tb.lookup f = some fn
def Glb (g : Sg) (x : Str) (v : PV) : Prop := g.gl.lookup x = some v
/-- the source: the cells, the next one's place, what is left of a great one, the turn, a mark; at most c turns so far -/
def Src (c : Nat) (xs : List PV) : Prop := ∃ (ns : List Int) (p : Nat) (l t m : Int), xs = [.lsv (ns.map PV.int), .int p, .int l, .int t, .int m] ∧ 0 ≤ l ∧ 0 ≤ t ∧ t ≤ c ∧ 0 ≤ m ∧ m < 1000000009
theorem free_ints (ns : List Int) : freeAll (ns.map PV.int) = true := by
  rw [freeAll_all, List.all_eq_true]
  intro x hx
  obtain ⟨i, _, rfl⟩ := List.mem_map.mp hx
  rfl
theorem Src.free {c : Nat} {xs : List PV} (h : Src c xs) : freeAll xs = true := by
  obtain ⟨ns, p, l, t, m, rfl, _⟩ := h
  simp [freeAll, PV.free, free_ints]
theorem Src.up {c d : Nat} {xs : List PV} (h : Src c xs) (hd : c ≤ d) : Src d xs := by
  obtain ⟨ns, p, l, t, m, e, h1, h2, h3, h4⟩ := h
  exact ⟨ns, p, l, t, m, e, h1, h2, by omega, h4⟩
@[simp] theorem ix50 : L2.ixN 5 0 = some 0 := rfl
@[simp] theorem ix51 : L2.ixN 5 1 = some 1 := rfl
@[simp] theorem ix52 : L2.ixN 5 2 = some 2 := rfl
@[simp] theorem ix53 : L2.ixN 5 3 = some 3 := rfl
@[simp] theorem ix54 : L2.ixN 5 4 = some 4 := rfl
section
variable {g : Sg} {cl : Str → Nat} {n : Nat} {st : Store} {Q : PV → Store → Prop}
theorem small_mul {a b : Int} (h0 : 0 ≤ a) (h1 : a < 10 ^ 60) (h2 : 0 ≤ b) (h3 : b < 10 ^ 60) : (a.natAbs.log2 + b.natAbs.log2 < 1000000) = True :=
  eq_true (mul_ok (Nat.lt_trans (nat_lt h0 h1) (by decide)) (Nat.lt_trans (nat_lt h2 h3) (by decide)))
theorem e_mixed (h : At g "_law_mixed" f__law_mixed) {m t : Int} (h0 : 0 ≤ m) (h1 : m < 10 ^ 20) (h2 : 0 ≤ t) (h3 : t < 10 ^ 20) : ∃ r : Int, 0 ≤ r ∧ ∀ st, (g.ctx cl (n + 1)).fn "_law_mixed" [.int m, .int t] st = .ok (.int r) st := by
  have k1 : (m.natAbs.log2 + Nat.log2 48271 < 1000000) = True := small_mul h0 (by omega) (b := 48271) (by decide) (by decide)
  have k2 : (t.natAbs.log2 + t.natAbs.log2 < 1000000) = True := small_mul h2 (by omega) h2 (by omega)
  have tt : t * t < 10 ^ 40 := by
    have : t * t ≤ (10 ^ 20 - 1) * (10 ^ 20 - 1) := Int.mul_le_mul (by omega) (by omega) h2 (by decide)
    omega
  have t0 : 0 ≤ t * t := Int.mul_nonneg h2 h2
  have k3 : ((t * t).natAbs.log2 + Nat.log2 69621 < 1000000) = True := small_mul t0 (by omega) (b := 69621) (by decide) (by decide)
  have k4 : (t.natAbs.log2 + Nat.log2 7919 < 1000000) = True := small_mul h2 (by omega) (b := 7919) (by decide) (by decide)
  have k7 : (t.natAbs.log2 + Nat.log2 104729 < 1000000) = True := small_mul h2 (by omega) (b := 104729) (by decide) (by decide)
  obtain ⟨a, ha⟩ : ∃ a : Int, (m * 48271 + t * t * 69621 + t * 7919 + 12345) % 2147483629 = a := ⟨_, rfl⟩
  have a0 : 0 ≤ a := by rw [← ha]; exact Int.emod_nonneg _ (by decide)
  have a1 : a < 2147483629 := by rw [← ha]; exact Int.emod_lt_of_pos _ (by decide)
  have k5 : (a.natAbs.log2 + a.natAbs.log2 < 1000000) = True := small_mul a0 (by omega) a0 (by omega)
  have k6 : (Nat.log2 40692 + a.natAbs.log2 < 1000000) = True := small_mul (a := 40692) (by decide) (by decide) a0 (by omega)
  obtain ⟨b, hb⟩ : ∃ b : Int, (a * a + 40692 * a + t * 104729 + 1) % 2147483587 = b := ⟨_, rfl⟩
  have b0 : 0 ≤ b := by rw [← hb]; exact Int.emod_nonneg _ (by decide)
  have b1 : b < 2147483587 := by rw [← hb]; exact Int.emod_lt_of_pos _ (by decide)
  have k8 : (b.natAbs.log2 + Nat.log2 16807 < 1000000) = True := small_mul b0 (by omega) (b := 16807) (by decide) (by decide)
  refine ⟨(b * 16807 + a) % 1000000007, Int.emod_nonneg _ (by decide), fun st => fn_eq h rfl rfl rfl ?_⟩
  simp only [f__law_mixed, env0]
  rw [wp_ss]
  simp [k1, k2, k3, k4, ha]
  rw [wp_ss]
  simp [k5, k6, k7, hb]
  rw [wp_ss]
  simp [k8]
theorem w_draw (h : At g "_law_draw" f__law_draw) (h2 : At g "_law_mixed" f__law_mixed) {i c : Nat} {xs : List PV} {many : Int} (hi : st[i]? = some xs) (hx : Src c xs) (hc : c < 10 ^ 12) (h0 : 0 < many) (h1 : many < 10 ^ 40)
    (q : ∀ (r : Int) (ys : List PV), 0 ≤ r → r < many → Src (c + 1) ys → Q (.int r) (st.set i ys)) : wpO ((g.ctx cl (n + 2)).fn "_law_draw" [.loc i, .int many] st) Q := by
  refine wp_fn1 h rfl rfl rfl hi hx.free ?_
  obtain ⟨ns, p, l, t, m, rfl, l0, t0, tc, m0, m1⟩ := hx
  have k4 := log_small (Nat.lt_trans (nat_lt (by omega) h1) (by decide) : many.natAbs < 2 ^ 400)
  have e2 : ∀ x : Int, 0 ≤ x % many := fun x => Int.emod_nonneg _ (by omega)
  have e3 : ∀ x : Int, x % many < many := fun x => Int.emod_lt_of_pos _ h0
  have last : ∀ (p' : Nat) (l' m' : Int) (u : Option PV), 0 ≤ l' → 0 ≤ m' → m' < 1000000009 →
      wpO (evSs (g.ctx cl (n + 1)) (.cons (.asg (.sub (.v 0) (.c (.int 3))) (.bin .add true (.ix (.v 0) (.c (.int 3))) (.c (.int 1)))) <|
        .cons (.iff (.cmp .gt (.ix (.v 0) (.c (.int 2))) (.c (.int 0))) (.cons (.asg (.p (.n 3)) (.bin .mod true (.bi .int true (.cons (.ix (.v 0) (.c (.int 2))) .nil)) (.v 1))) <|
          .cons (.asg (.sub (.v 0) (.c (.int 2))) (.bin .fdiv true (.ix (.v 0) (.c (.int 2))) (.v 1))) <|
          .cons (.ret (.v 3)) <|
          .nil) (.nil)) <|
        .cons (.ret (.bin .mod true (.bi .int true (.cons (.call "_law_mixed" (.cons (.ix (.v 0) (.c (.int 4))) (.cons (.ix (.v 0) (.c (.int 3))) .nil))) .nil)) (.v 1))) <|
        .nil) [some (.loc 0), some (.int many), u, none] [[.lsv (ns.map PV.int), .int p', .int l', .int t, .int m']]) fun r s2 => ∃ ys, s2[0]? = some ys ∧ freeAll ys = true ∧ match r with
        | .rt v => ∃ v', frz 1 s2 64 v = some v' ∧ Q v' (st.set i ys)
        | .nx _ => Q .non (st.set i ys)
        | _ => False := by
    intro p' l' m' u l0 m0 m1
    rw [wp_ss]
    simp
    rw [wp_ss]
    by_cases hz : 0 < l'
    · simp [hz, wp_ss, h0, k4]
      have hs : Src (c + 1) [.lsv (ns.map PV.int), .int p', .int (l' / many), .int (t + 1), .int m'] := ⟨ns, p', l' / many, t + 1, m', rfl, Int.ediv_nonneg l0 (by omega), by omega, by omega, m0, m1⟩
      exact ⟨hs.free, q _ _ (e2 _) (e3 _) hs⟩
    · obtain ⟨r, r0, er⟩ := e_mixed (cl := cl) (n := n) h2 (m := m') (t := t + 1) m0 (by omega) (by omega) (by omega)
      simp [hz, wp_ss, h0, er]
      have hs : Src (c + 1) [.lsv (ns.map PV.int), .int p', .int l', .int (t + 1), .int m'] := ⟨ns, p', l', t + 1, m', rfl, l0, by omega, by omega, m0, m1⟩
      exact ⟨hs.free, q _ _ (e2 _) (e3 _) hs⟩
  simp only [f__law_draw, env0]
  rw [wp_ss]
  by_cases hl : l = 0
  · subst hl
    by_cases hp : p < ns.length
    · have hp2 : (p : Int) < (ns.length : Int) := by omega
      have get : (ns.map PV.int)[p]? = some (.int (ns[p]'hp)) := by rw [List.getElem?_map, List.getElem?_eq_getElem hp]; rfl
      have k1 : (m.natAbs.log2 + Nat.log2 31 < 1000000) = True := small_mul m0 (by omega) (b := 31) (by decide) (by decide)
      have e4 : 0 ≤ (m * 31 + ns[p]) % 1000000009 := Int.emod_nonneg _ (by decide)
      have e5 : (m * 31 + ns[p]) % 1000000009 < 1000000009 := Int.emod_lt_of_pos _ (by decide)
      simp [hp2, at_nn, get]
      rw [wp_ss]
      simp [at_nn, get]
      rw [wp_ss]
      simp
      rw [wp_ss]
      simp [k1]
      rw [wp_ss]
      by_cases hb : (10 : Int) ^ 18 ≤ ns[p]
      · have hb2 : (1000000000000000000 : Int) ≤ ns[p] := hb
        simp [hb2]
        rw [wp_ss]
        simp
        exact last (p + 1) ns[p] ((m * 31 + ns[p]) % 1000000009) _ (by omega) e4 e5
      · have hb2 : ¬ (1000000000000000000 : Int) ≤ ns[p] := hb
        simp [hb2]
        exact last (p + 1) 0 ((m * 31 + ns[p]) % 1000000009) _ (Int.le_refl _) e4 e5
    · have hp2 : ¬ (p : Int) < (ns.length : Int) := by omega
      simp [hp2]
      exact last p 0 m _ l0 m0 m1
  · have hl2 : (l == 0) = false := by simpa using hl
    simp [hl2]
    exact last p l m _ l0 m0 m1
theorem w_source (h : At g "_law_source" f__law_source) {ns : List Int} (hn : ns.length ≤ 63) (q : ∀ xs, Src 0 xs → Q (.loc st.length) (st ++ [xs])) :
    wpO ((g.ctx cl (n + 1)).fn "_law_source" [.lsv (ns.map PV.int)] st) Q := by
  refine wp_fnM h rfl rfl (by simp [freeAll, PV.free, free_ints]) ?_
  simp only [f__law_source, env0]
  rw [wp_ss]
  simp
  have hs : Src 0 [.lsv (ns.map PV.int), .int 0, .int 0, .int 0, .int 0] := ⟨ns, 0, 0, 0, 0, rfl, by decide, by decide, by decide, by decide, by decide⟩
  exact ⟨hs.free, q _ hs⟩
end
end L2.V

/-! SyA: the words of sayings. Printed, own work. -/
namespace L2.Sy
open PySem L2.Iv L2.Tm
@[simp] theorem w_not_both : (("not" : Str) = ("both" : Str)) = False := eq_false (by decide +kernel)
@[simp] theorem b_not_both : (("not" : Str) == ("both" : Str)) = false := by decide +kernel
@[simp] theorem w_not_either : (("not" : Str) = ("either" : Str)) = False := eq_false (by decide +kernel)
@[simp] theorem b_not_either : (("not" : Str) == ("either" : Str)) = false := by decide +kernel
@[simp] theorem w_not_some : (("not" : Str) = ("some" : Str)) = False := eq_false (by decide +kernel)
@[simp] theorem b_not_some : (("not" : Str) == ("some" : Str)) = false := by decide +kernel
@[simp] theorem w_not_every : (("not" : Str) = ("every" : Str)) = False := eq_false (by decide +kernel)
@[simp] theorem b_not_every : (("not" : Str) == ("every" : Str)) = false := by decide +kernel
@[simp] theorem w_not_someone : (("not" : Str) = ("someone" : Str)) = False := eq_false (by decide +kernel)
@[simp] theorem b_not_someone : (("not" : Str) == ("someone" : Str)) = false := by decide +kernel
@[simp] theorem w_not_each : (("not" : Str) = ("each" : Str)) = False := eq_false (by decide +kernel)
@[simp] theorem b_not_each : (("not" : Str) == ("each" : Str)) = false := by decide +kernel
@[simp] theorem w_not_empty : (("not" : Str) = ("empty" : Str)) = False := eq_false (by decide +kernel)
@[simp] theorem b_not_empty : (("not" : Str) == ("empty" : Str)) = false := by decide +kernel
@[simp] theorem w_not_one : (("not" : Str) = ("one" : Str)) = False := eq_false (by decide +kernel)
@[simp] theorem b_not_one : (("not" : Str) == ("one" : Str)) = false := by decide +kernel
@[simp] theorem w_not_in : (("not" : Str) = ("in" : Str)) = False := eq_false (by decide +kernel)
@[simp] theorem b_not_in : (("not" : Str) == ("in" : Str)) = false := by decide +kernel
@[simp] theorem w_not_before : (("not" : Str) = ("before" : Str)) = False := eq_false (by decide +kernel)
@[simp] theorem b_not_before : (("not" : Str) == ("before" : Str)) = false := by decide +kernel
@[simp] theorem w_not_next : (("not" : Str) = ("next" : Str)) = False := eq_false (by decide +kernel)
@[simp] theorem b_not_next : (("not" : Str) == ("next" : Str)) = false := by decide +kernel
@[simp] theorem w_not_has : (("not" : Str) = ("has" : Str)) = False := eq_false (by decide +kernel)
@[simp] theorem b_not_has : (("not" : Str) == ("has" : Str)) = false := by decide +kernel
@[simp] theorem w_both_not : (("both" : Str) = ("not" : Str)) = False := eq_false (by decide +kernel)
@[simp] theorem b_both_not : (("both" : Str) == ("not" : Str)) = false := by decide +kernel
@[simp] theorem w_both_either : (("both" : Str) = ("either" : Str)) = False := eq_false (by decide +kernel)
@[simp] theorem b_both_either : (("both" : Str) == ("either" : Str)) = false := by decide +kernel
@[simp] theorem w_both_some : (("both" : Str) = ("some" : Str)) = False := eq_false (by decide +kernel)
@[simp] theorem b_both_some : (("both" : Str) == ("some" : Str)) = false := by decide +kernel
@[simp] theorem w_both_every : (("both" : Str) = ("every" : Str)) = False := eq_false (by decide +kernel)
@[simp] theorem b_both_every : (("both" : Str) == ("every" : Str)) = false := by decide +kernel
@[simp] theorem w_both_someone : (("both" : Str) = ("someone" : Str)) = False := eq_false (by decide +kernel)
@[simp] theorem b_both_someone : (("both" : Str) == ("someone" : Str)) = false := by decide +kernel
@[simp] theorem w_both_each : (("both" : Str) = ("each" : Str)) = False := eq_false (by decide +kernel)
@[simp] theorem b_both_each : (("both" : Str) == ("each" : Str)) = false := by decide +kernel
@[simp] theorem w_both_empty : (("both" : Str) = ("empty" : Str)) = False := eq_false (by decide +kernel)
@[simp] theorem b_both_empty : (("both" : Str) == ("empty" : Str)) = false := by decide +kernel
@[simp] theorem w_both_one : (("both" : Str) = ("one" : Str)) = False := eq_false (by decide +kernel)
@[simp] theorem b_both_one : (("both" : Str) == ("one" : Str)) = false := by decide +kernel
@[simp] theorem w_both_in : (("both" : Str) = ("in" : Str)) = False := eq_false (by decide +kernel)
@[simp] theorem b_both_in : (("both" : Str) == ("in" : Str)) = false := by decide +kernel
@[simp] theorem w_both_before : (("both" : Str) = ("before" : Str)) = False := eq_false (by decide +kernel)
@[simp] theorem b_both_before : (("both" : Str) == ("before" : Str)) = false := by decide +kernel
@[simp] theorem w_both_next : (("both" : Str) = ("next" : Str)) = False := eq_false (by decide +kernel)
@[simp] theorem b_both_next : (("both" : Str) == ("next" : Str)) = false := by decide +kernel
@[simp] theorem w_both_has : (("both" : Str) = ("has" : Str)) = False := eq_false (by decide +kernel)
@[simp] theorem b_both_has : (("both" : Str) == ("has" : Str)) = false := by decide +kernel
@[simp] theorem w_either_not : (("either" : Str) = ("not" : Str)) = False := eq_false (by decide +kernel)
@[simp] theorem b_either_not : (("either" : Str) == ("not" : Str)) = false := by decide +kernel
@[simp] theorem w_either_both : (("either" : Str) = ("both" : Str)) = False := eq_false (by decide +kernel)
@[simp] theorem b_either_both : (("either" : Str) == ("both" : Str)) = false := by decide +kernel
@[simp] theorem w_either_some : (("either" : Str) = ("some" : Str)) = False := eq_false (by decide +kernel)
@[simp] theorem b_either_some : (("either" : Str) == ("some" : Str)) = false := by decide +kernel
@[simp] theorem w_either_every : (("either" : Str) = ("every" : Str)) = False := eq_false (by decide +kernel)
@[simp] theorem b_either_every : (("either" : Str) == ("every" : Str)) = false := by decide +kernel
@[simp] theorem w_either_someone : (("either" : Str) = ("someone" : Str)) = False := eq_false (by decide +kernel)
@[simp] theorem b_either_someone : (("either" : Str) == ("someone" : Str)) = false := by decide +kernel
@[simp] theorem w_either_each : (("either" : Str) = ("each" : Str)) = False := eq_false (by decide +kernel)
@[simp] theorem b_either_each : (("either" : Str) == ("each" : Str)) = false := by decide +kernel
@[simp] theorem w_either_empty : (("either" : Str) = ("empty" : Str)) = False := eq_false (by decide +kernel)
@[simp] theorem b_either_empty : (("either" : Str) == ("empty" : Str)) = false := by decide +kernel
@[simp] theorem w_either_one : (("either" : Str) = ("one" : Str)) = False := eq_false (by decide +kernel)
@[simp] theorem b_either_one : (("either" : Str) == ("one" : Str)) = false := by decide +kernel
@[simp] theorem w_either_in : (("either" : Str) = ("in" : Str)) = False := eq_false (by decide +kernel)
@[simp] theorem b_either_in : (("either" : Str) == ("in" : Str)) = false := by decide +kernel
@[simp] theorem w_either_before : (("either" : Str) = ("before" : Str)) = False := eq_false (by decide +kernel)
@[simp] theorem b_either_before : (("either" : Str) == ("before" : Str)) = false := by decide +kernel
@[simp] theorem w_either_next : (("either" : Str) = ("next" : Str)) = False := eq_false (by decide +kernel)
@[simp] theorem b_either_next : (("either" : Str) == ("next" : Str)) = false := by decide +kernel
@[simp] theorem w_either_has : (("either" : Str) = ("has" : Str)) = False := eq_false (by decide +kernel)
@[simp] theorem b_either_has : (("either" : Str) == ("has" : Str)) = false := by decide +kernel
@[simp] theorem w_some_not : (("some" : Str) = ("not" : Str)) = False := eq_false (by decide +kernel)
@[simp] theorem b_some_not : (("some" : Str) == ("not" : Str)) = false := by decide +kernel
@[simp] theorem w_some_both : (("some" : Str) = ("both" : Str)) = False := eq_false (by decide +kernel)
@[simp] theorem b_some_both : (("some" : Str) == ("both" : Str)) = false := by decide +kernel
@[simp] theorem w_some_either : (("some" : Str) = ("either" : Str)) = False := eq_false (by decide +kernel)
@[simp] theorem b_some_either : (("some" : Str) == ("either" : Str)) = false := by decide +kernel
@[simp] theorem w_some_every : (("some" : Str) = ("every" : Str)) = False := eq_false (by decide +kernel)
@[simp] theorem b_some_every : (("some" : Str) == ("every" : Str)) = false := by decide +kernel
@[simp] theorem w_some_someone : (("some" : Str) = ("someone" : Str)) = False := eq_false (by decide +kernel)
@[simp] theorem b_some_someone : (("some" : Str) == ("someone" : Str)) = false := by decide +kernel
@[simp] theorem w_some_each : (("some" : Str) = ("each" : Str)) = False := eq_false (by decide +kernel)
@[simp] theorem b_some_each : (("some" : Str) == ("each" : Str)) = false := by decide +kernel
@[simp] theorem w_some_empty : (("some" : Str) = ("empty" : Str)) = False := eq_false (by decide +kernel)
@[simp] theorem b_some_empty : (("some" : Str) == ("empty" : Str)) = false := by decide +kernel
@[simp] theorem w_some_one : (("some" : Str) = ("one" : Str)) = False := eq_false (by decide +kernel)
@[simp] theorem b_some_one : (("some" : Str) == ("one" : Str)) = false := by decide +kernel
@[simp] theorem w_some_in : (("some" : Str) = ("in" : Str)) = False := eq_false (by decide +kernel)
@[simp] theorem b_some_in : (("some" : Str) == ("in" : Str)) = false := by decide +kernel
@[simp] theorem w_some_before : (("some" : Str) = ("before" : Str)) = False := eq_false (by decide +kernel)
@[simp] theorem b_some_before : (("some" : Str) == ("before" : Str)) = false := by decide +kernel
@[simp] theorem w_some_next : (("some" : Str) = ("next" : Str)) = False := eq_false (by decide +kernel)
@[simp] theorem b_some_next : (("some" : Str) == ("next" : Str)) = false := by decide +kernel
@[simp] theorem w_some_has : (("some" : Str) = ("has" : Str)) = False := eq_false (by decide +kernel)
@[simp] theorem b_some_has : (("some" : Str) == ("has" : Str)) = false := by decide +kernel
@[simp] theorem w_every_not : (("every" : Str) = ("not" : Str)) = False := eq_false (by decide +kernel)
@[simp] theorem b_every_not : (("every" : Str) == ("not" : Str)) = false := by decide +kernel
@[simp] theorem w_every_both : (("every" : Str) = ("both" : Str)) = False := eq_false (by decide +kernel)
@[simp] theorem b_every_both : (("every" : Str) == ("both" : Str)) = false := by decide +kernel
@[simp] theorem w_every_either : (("every" : Str) = ("either" : Str)) = False := eq_false (by decide +kernel)
@[simp] theorem b_every_either : (("every" : Str) == ("either" : Str)) = false := by decide +kernel
@[simp] theorem w_every_some : (("every" : Str) = ("some" : Str)) = False := eq_false (by decide +kernel)
@[simp] theorem b_every_some : (("every" : Str) == ("some" : Str)) = false := by decide +kernel
@[simp] theorem w_every_someone : (("every" : Str) = ("someone" : Str)) = False := eq_false (by decide +kernel)
@[simp] theorem b_every_someone : (("every" : Str) == ("someone" : Str)) = false := by decide +kernel
@[simp] theorem w_every_each : (("every" : Str) = ("each" : Str)) = False := eq_false (by decide +kernel)
@[simp] theorem b_every_each : (("every" : Str) == ("each" : Str)) = false := by decide +kernel
@[simp] theorem w_every_empty : (("every" : Str) = ("empty" : Str)) = False := eq_false (by decide +kernel)
@[simp] theorem b_every_empty : (("every" : Str) == ("empty" : Str)) = false := by decide +kernel
@[simp] theorem w_every_one : (("every" : Str) = ("one" : Str)) = False := eq_false (by decide +kernel)
@[simp] theorem b_every_one : (("every" : Str) == ("one" : Str)) = false := by decide +kernel
@[simp] theorem w_every_in : (("every" : Str) = ("in" : Str)) = False := eq_false (by decide +kernel)
@[simp] theorem b_every_in : (("every" : Str) == ("in" : Str)) = false := by decide +kernel
@[simp] theorem w_every_before : (("every" : Str) = ("before" : Str)) = False := eq_false (by decide +kernel)
@[simp] theorem b_every_before : (("every" : Str) == ("before" : Str)) = false := by decide +kernel
@[simp] theorem w_every_next : (("every" : Str) = ("next" : Str)) = False := eq_false (by decide +kernel)
@[simp] theorem b_every_next : (("every" : Str) == ("next" : Str)) = false := by decide +kernel
@[simp] theorem w_every_has : (("every" : Str) = ("has" : Str)) = False := eq_false (by decide +kernel)
@[simp] theorem b_every_has : (("every" : Str) == ("has" : Str)) = false := by decide +kernel
@[simp] theorem w_someone_not : (("someone" : Str) = ("not" : Str)) = False := eq_false (by decide +kernel)
@[simp] theorem b_someone_not : (("someone" : Str) == ("not" : Str)) = false := by decide +kernel
@[simp] theorem w_someone_both : (("someone" : Str) = ("both" : Str)) = False := eq_false (by decide +kernel)
@[simp] theorem b_someone_both : (("someone" : Str) == ("both" : Str)) = false := by decide +kernel
@[simp] theorem w_someone_either : (("someone" : Str) = ("either" : Str)) = False := eq_false (by decide +kernel)
@[simp] theorem b_someone_either : (("someone" : Str) == ("either" : Str)) = false := by decide +kernel
@[simp] theorem w_someone_some : (("someone" : Str) = ("some" : Str)) = False := eq_false (by decide +kernel)
@[simp] theorem b_someone_some : (("someone" : Str) == ("some" : Str)) = false := by decide +kernel
@[simp] theorem w_someone_every : (("someone" : Str) = ("every" : Str)) = False := eq_false (by decide +kernel)
@[simp] theorem b_someone_every : (("someone" : Str) == ("every" : Str)) = false := by decide +kernel
@[simp] theorem w_someone_each : (("someone" : Str) = ("each" : Str)) = False := eq_false (by decide +kernel)
@[simp] theorem b_someone_each : (("someone" : Str) == ("each" : Str)) = false := by decide +kernel
@[simp] theorem w_someone_empty : (("someone" : Str) = ("empty" : Str)) = False := eq_false (by decide +kernel)
@[simp] theorem b_someone_empty : (("someone" : Str) == ("empty" : Str)) = false := by decide +kernel
@[simp] theorem w_someone_one : (("someone" : Str) = ("one" : Str)) = False := eq_false (by decide +kernel)
@[simp] theorem b_someone_one : (("someone" : Str) == ("one" : Str)) = false := by decide +kernel
@[simp] theorem w_someone_in : (("someone" : Str) = ("in" : Str)) = False := eq_false (by decide +kernel)
@[simp] theorem b_someone_in : (("someone" : Str) == ("in" : Str)) = false := by decide +kernel
@[simp] theorem w_someone_before : (("someone" : Str) = ("before" : Str)) = False := eq_false (by decide +kernel)
@[simp] theorem b_someone_before : (("someone" : Str) == ("before" : Str)) = false := by decide +kernel
@[simp] theorem w_someone_next : (("someone" : Str) = ("next" : Str)) = False := eq_false (by decide +kernel)
@[simp] theorem b_someone_next : (("someone" : Str) == ("next" : Str)) = false := by decide +kernel
@[simp] theorem w_someone_has : (("someone" : Str) = ("has" : Str)) = False := eq_false (by decide +kernel)
@[simp] theorem b_someone_has : (("someone" : Str) == ("has" : Str)) = false := by decide +kernel
@[simp] theorem w_each_not : (("each" : Str) = ("not" : Str)) = False := eq_false (by decide +kernel)
@[simp] theorem b_each_not : (("each" : Str) == ("not" : Str)) = false := by decide +kernel
@[simp] theorem w_each_both : (("each" : Str) = ("both" : Str)) = False := eq_false (by decide +kernel)
@[simp] theorem b_each_both : (("each" : Str) == ("both" : Str)) = false := by decide +kernel
@[simp] theorem w_each_either : (("each" : Str) = ("either" : Str)) = False := eq_false (by decide +kernel)
@[simp] theorem b_each_either : (("each" : Str) == ("either" : Str)) = false := by decide +kernel
@[simp] theorem w_each_some : (("each" : Str) = ("some" : Str)) = False := eq_false (by decide +kernel)
@[simp] theorem b_each_some : (("each" : Str) == ("some" : Str)) = false := by decide +kernel
@[simp] theorem w_each_every : (("each" : Str) = ("every" : Str)) = False := eq_false (by decide +kernel)
@[simp] theorem b_each_every : (("each" : Str) == ("every" : Str)) = false := by decide +kernel
@[simp] theorem w_each_someone : (("each" : Str) = ("someone" : Str)) = False := eq_false (by decide +kernel)
@[simp] theorem b_each_someone : (("each" : Str) == ("someone" : Str)) = false := by decide +kernel
@[simp] theorem w_each_empty : (("each" : Str) = ("empty" : Str)) = False := eq_false (by decide +kernel)
@[simp] theorem b_each_empty : (("each" : Str) == ("empty" : Str)) = false := by decide +kernel
@[simp] theorem w_each_one : (("each" : Str) = ("one" : Str)) = False := eq_false (by decide +kernel)
@[simp] theorem b_each_one : (("each" : Str) == ("one" : Str)) = false := by decide +kernel
@[simp] theorem w_each_in : (("each" : Str) = ("in" : Str)) = False := eq_false (by decide +kernel)
@[simp] theorem b_each_in : (("each" : Str) == ("in" : Str)) = false := by decide +kernel
@[simp] theorem w_each_before : (("each" : Str) = ("before" : Str)) = False := eq_false (by decide +kernel)
@[simp] theorem b_each_before : (("each" : Str) == ("before" : Str)) = false := by decide +kernel
@[simp] theorem w_each_next : (("each" : Str) = ("next" : Str)) = False := eq_false (by decide +kernel)
@[simp] theorem b_each_next : (("each" : Str) == ("next" : Str)) = false := by decide +kernel
@[simp] theorem w_each_has : (("each" : Str) = ("has" : Str)) = False := eq_false (by decide +kernel)
@[simp] theorem b_each_has : (("each" : Str) == ("has" : Str)) = false := by decide +kernel
@[simp] theorem w_empty_not : (("empty" : Str) = ("not" : Str)) = False := eq_false (by decide +kernel)
@[simp] theorem b_empty_not : (("empty" : Str) == ("not" : Str)) = false := by decide +kernel
@[simp] theorem w_empty_both : (("empty" : Str) = ("both" : Str)) = False := eq_false (by decide +kernel)
@[simp] theorem b_empty_both : (("empty" : Str) == ("both" : Str)) = false := by decide +kernel
@[simp] theorem w_empty_either : (("empty" : Str) = ("either" : Str)) = False := eq_false (by decide +kernel)
@[simp] theorem b_empty_either : (("empty" : Str) == ("either" : Str)) = false := by decide +kernel
@[simp] theorem w_empty_some : (("empty" : Str) = ("some" : Str)) = False := eq_false (by decide +kernel)
@[simp] theorem b_empty_some : (("empty" : Str) == ("some" : Str)) = false := by decide +kernel
@[simp] theorem w_empty_every : (("empty" : Str) = ("every" : Str)) = False := eq_false (by decide +kernel)
@[simp] theorem b_empty_every : (("empty" : Str) == ("every" : Str)) = false := by decide +kernel
@[simp] theorem w_empty_someone : (("empty" : Str) = ("someone" : Str)) = False := eq_false (by decide +kernel)
@[simp] theorem b_empty_someone : (("empty" : Str) == ("someone" : Str)) = false := by decide +kernel
@[simp] theorem w_empty_each : (("empty" : Str) = ("each" : Str)) = False := eq_false (by decide +kernel)
@[simp] theorem b_empty_each : (("empty" : Str) == ("each" : Str)) = false := by decide +kernel
@[simp] theorem w_empty_one : (("empty" : Str) = ("one" : Str)) = False := eq_false (by decide +kernel)
@[simp] theorem b_empty_one : (("empty" : Str) == ("one" : Str)) = false := by decide +kernel
@[simp] theorem w_empty_in : (("empty" : Str) = ("in" : Str)) = False := eq_false (by decide +kernel)
@[simp] theorem b_empty_in : (("empty" : Str) == ("in" : Str)) = false := by decide +kernel
@[simp] theorem w_empty_before : (("empty" : Str) = ("before" : Str)) = False := eq_false (by decide +kernel)
@[simp] theorem b_empty_before : (("empty" : Str) == ("before" : Str)) = false := by decide +kernel
@[simp] theorem w_empty_next : (("empty" : Str) = ("next" : Str)) = False := eq_false (by decide +kernel)
@[simp] theorem b_empty_next : (("empty" : Str) == ("next" : Str)) = false := by decide +kernel
@[simp] theorem w_empty_has : (("empty" : Str) = ("has" : Str)) = False := eq_false (by decide +kernel)
@[simp] theorem b_empty_has : (("empty" : Str) == ("has" : Str)) = false := by decide +kernel
@[simp] theorem w_one_not : (("one" : Str) = ("not" : Str)) = False := eq_false (by decide +kernel)
@[simp] theorem b_one_not : (("one" : Str) == ("not" : Str)) = false := by decide +kernel
@[simp] theorem w_one_both : (("one" : Str) = ("both" : Str)) = False := eq_false (by decide +kernel)
@[simp] theorem b_one_both : (("one" : Str) == ("both" : Str)) = false := by decide +kernel
@[simp] theorem w_one_either : (("one" : Str) = ("either" : Str)) = False := eq_false (by decide +kernel)
@[simp] theorem b_one_either : (("one" : Str) == ("either" : Str)) = false := by decide +kernel
@[simp] theorem w_one_some : (("one" : Str) = ("some" : Str)) = False := eq_false (by decide +kernel)
@[simp] theorem b_one_some : (("one" : Str) == ("some" : Str)) = false := by decide +kernel
@[simp] theorem w_one_every : (("one" : Str) = ("every" : Str)) = False := eq_false (by decide +kernel)
@[simp] theorem b_one_every : (("one" : Str) == ("every" : Str)) = false := by decide +kernel
@[simp] theorem w_one_someone : (("one" : Str) = ("someone" : Str)) = False := eq_false (by decide +kernel)
@[simp] theorem b_one_someone : (("one" : Str) == ("someone" : Str)) = false := by decide +kernel
@[simp] theorem w_one_each : (("one" : Str) = ("each" : Str)) = False := eq_false (by decide +kernel)
@[simp] theorem b_one_each : (("one" : Str) == ("each" : Str)) = false := by decide +kernel
@[simp] theorem w_one_empty : (("one" : Str) = ("empty" : Str)) = False := eq_false (by decide +kernel)
@[simp] theorem b_one_empty : (("one" : Str) == ("empty" : Str)) = false := by decide +kernel
@[simp] theorem w_one_in : (("one" : Str) = ("in" : Str)) = False := eq_false (by decide +kernel)
@[simp] theorem b_one_in : (("one" : Str) == ("in" : Str)) = false := by decide +kernel
@[simp] theorem w_one_before : (("one" : Str) = ("before" : Str)) = False := eq_false (by decide +kernel)
@[simp] theorem b_one_before : (("one" : Str) == ("before" : Str)) = false := by decide +kernel
@[simp] theorem w_one_next : (("one" : Str) = ("next" : Str)) = False := eq_false (by decide +kernel)
@[simp] theorem b_one_next : (("one" : Str) == ("next" : Str)) = false := by decide +kernel
@[simp] theorem w_one_has : (("one" : Str) = ("has" : Str)) = False := eq_false (by decide +kernel)
@[simp] theorem b_one_has : (("one" : Str) == ("has" : Str)) = false := by decide +kernel
@[simp] theorem w_in_not : (("in" : Str) = ("not" : Str)) = False := eq_false (by decide +kernel)
@[simp] theorem b_in_not : (("in" : Str) == ("not" : Str)) = false := by decide +kernel
@[simp] theorem w_in_both : (("in" : Str) = ("both" : Str)) = False := eq_false (by decide +kernel)
@[simp] theorem b_in_both : (("in" : Str) == ("both" : Str)) = false := by decide +kernel
@[simp] theorem w_in_either : (("in" : Str) = ("either" : Str)) = False := eq_false (by decide +kernel)
@[simp] theorem b_in_either : (("in" : Str) == ("either" : Str)) = false := by decide +kernel
@[simp] theorem w_in_some : (("in" : Str) = ("some" : Str)) = False := eq_false (by decide +kernel)
@[simp] theorem b_in_some : (("in" : Str) == ("some" : Str)) = false := by decide +kernel
@[simp] theorem w_in_every : (("in" : Str) = ("every" : Str)) = False := eq_false (by decide +kernel)
@[simp] theorem b_in_every : (("in" : Str) == ("every" : Str)) = false := by decide +kernel
@[simp] theorem w_in_someone : (("in" : Str) = ("someone" : Str)) = False := eq_false (by decide +kernel)
@[simp] theorem b_in_someone : (("in" : Str) == ("someone" : Str)) = false := by decide +kernel
@[simp] theorem w_in_each : (("in" : Str) = ("each" : Str)) = False := eq_false (by decide +kernel)
@[simp] theorem b_in_each : (("in" : Str) == ("each" : Str)) = false := by decide +kernel
@[simp] theorem w_in_empty : (("in" : Str) = ("empty" : Str)) = False := eq_false (by decide +kernel)
@[simp] theorem b_in_empty : (("in" : Str) == ("empty" : Str)) = false := by decide +kernel
@[simp] theorem w_in_one : (("in" : Str) = ("one" : Str)) = False := eq_false (by decide +kernel)
@[simp] theorem b_in_one : (("in" : Str) == ("one" : Str)) = false := by decide +kernel
@[simp] theorem w_in_before : (("in" : Str) = ("before" : Str)) = False := eq_false (by decide +kernel)
@[simp] theorem b_in_before : (("in" : Str) == ("before" : Str)) = false := by decide +kernel
@[simp] theorem w_in_next : (("in" : Str) = ("next" : Str)) = False := eq_false (by decide +kernel)
@[simp] theorem b_in_next : (("in" : Str) == ("next" : Str)) = false := by decide +kernel
@[simp] theorem w_in_has : (("in" : Str) = ("has" : Str)) = False := eq_false (by decide +kernel)
@[simp] theorem b_in_has : (("in" : Str) == ("has" : Str)) = false := by decide +kernel
@[simp] theorem w_before_not : (("before" : Str) = ("not" : Str)) = False := eq_false (by decide +kernel)
@[simp] theorem b_before_not : (("before" : Str) == ("not" : Str)) = false := by decide +kernel
@[simp] theorem w_before_both : (("before" : Str) = ("both" : Str)) = False := eq_false (by decide +kernel)
@[simp] theorem b_before_both : (("before" : Str) == ("both" : Str)) = false := by decide +kernel
@[simp] theorem w_before_either : (("before" : Str) = ("either" : Str)) = False := eq_false (by decide +kernel)
@[simp] theorem b_before_either : (("before" : Str) == ("either" : Str)) = false := by decide +kernel
@[simp] theorem w_before_some : (("before" : Str) = ("some" : Str)) = False := eq_false (by decide +kernel)
@[simp] theorem b_before_some : (("before" : Str) == ("some" : Str)) = false := by decide +kernel
@[simp] theorem w_before_every : (("before" : Str) = ("every" : Str)) = False := eq_false (by decide +kernel)
@[simp] theorem b_before_every : (("before" : Str) == ("every" : Str)) = false := by decide +kernel
@[simp] theorem w_before_someone : (("before" : Str) = ("someone" : Str)) = False := eq_false (by decide +kernel)
@[simp] theorem b_before_someone : (("before" : Str) == ("someone" : Str)) = false := by decide +kernel
@[simp] theorem w_before_each : (("before" : Str) = ("each" : Str)) = False := eq_false (by decide +kernel)
@[simp] theorem b_before_each : (("before" : Str) == ("each" : Str)) = false := by decide +kernel
@[simp] theorem w_before_empty : (("before" : Str) = ("empty" : Str)) = False := eq_false (by decide +kernel)
@[simp] theorem b_before_empty : (("before" : Str) == ("empty" : Str)) = false := by decide +kernel
@[simp] theorem w_before_one : (("before" : Str) = ("one" : Str)) = False := eq_false (by decide +kernel)
@[simp] theorem b_before_one : (("before" : Str) == ("one" : Str)) = false := by decide +kernel
@[simp] theorem w_before_in : (("before" : Str) = ("in" : Str)) = False := eq_false (by decide +kernel)
@[simp] theorem b_before_in : (("before" : Str) == ("in" : Str)) = false := by decide +kernel
@[simp] theorem w_before_next : (("before" : Str) = ("next" : Str)) = False := eq_false (by decide +kernel)
@[simp] theorem b_before_next : (("before" : Str) == ("next" : Str)) = false := by decide +kernel
@[simp] theorem w_before_has : (("before" : Str) = ("has" : Str)) = False := eq_false (by decide +kernel)
@[simp] theorem b_before_has : (("before" : Str) == ("has" : Str)) = false := by decide +kernel
@[simp] theorem w_next_not : (("next" : Str) = ("not" : Str)) = False := eq_false (by decide +kernel)
@[simp] theorem b_next_not : (("next" : Str) == ("not" : Str)) = false := by decide +kernel
@[simp] theorem w_next_both : (("next" : Str) = ("both" : Str)) = False := eq_false (by decide +kernel)
@[simp] theorem b_next_both : (("next" : Str) == ("both" : Str)) = false := by decide +kernel
@[simp] theorem w_next_either : (("next" : Str) = ("either" : Str)) = False := eq_false (by decide +kernel)
@[simp] theorem b_next_either : (("next" : Str) == ("either" : Str)) = false := by decide +kernel
@[simp] theorem w_next_some : (("next" : Str) = ("some" : Str)) = False := eq_false (by decide +kernel)
@[simp] theorem b_next_some : (("next" : Str) == ("some" : Str)) = false := by decide +kernel
@[simp] theorem w_next_every : (("next" : Str) = ("every" : Str)) = False := eq_false (by decide +kernel)
@[simp] theorem b_next_every : (("next" : Str) == ("every" : Str)) = false := by decide +kernel
@[simp] theorem w_next_someone : (("next" : Str) = ("someone" : Str)) = False := eq_false (by decide +kernel)
@[simp] theorem b_next_someone : (("next" : Str) == ("someone" : Str)) = false := by decide +kernel
@[simp] theorem w_next_each : (("next" : Str) = ("each" : Str)) = False := eq_false (by decide +kernel)
@[simp] theorem b_next_each : (("next" : Str) == ("each" : Str)) = false := by decide +kernel
@[simp] theorem w_next_empty : (("next" : Str) = ("empty" : Str)) = False := eq_false (by decide +kernel)
@[simp] theorem b_next_empty : (("next" : Str) == ("empty" : Str)) = false := by decide +kernel
@[simp] theorem w_next_one : (("next" : Str) = ("one" : Str)) = False := eq_false (by decide +kernel)
@[simp] theorem b_next_one : (("next" : Str) == ("one" : Str)) = false := by decide +kernel
@[simp] theorem w_next_in : (("next" : Str) = ("in" : Str)) = False := eq_false (by decide +kernel)
@[simp] theorem b_next_in : (("next" : Str) == ("in" : Str)) = false := by decide +kernel
@[simp] theorem w_next_before : (("next" : Str) = ("before" : Str)) = False := eq_false (by decide +kernel)
@[simp] theorem b_next_before : (("next" : Str) == ("before" : Str)) = false := by decide +kernel
@[simp] theorem w_next_has : (("next" : Str) = ("has" : Str)) = False := eq_false (by decide +kernel)
@[simp] theorem b_next_has : (("next" : Str) == ("has" : Str)) = false := by decide +kernel
@[simp] theorem w_has_not : (("has" : Str) = ("not" : Str)) = False := eq_false (by decide +kernel)
@[simp] theorem b_has_not : (("has" : Str) == ("not" : Str)) = false := by decide +kernel
@[simp] theorem w_has_both : (("has" : Str) = ("both" : Str)) = False := eq_false (by decide +kernel)
@[simp] theorem b_has_both : (("has" : Str) == ("both" : Str)) = false := by decide +kernel
@[simp] theorem w_has_either : (("has" : Str) = ("either" : Str)) = False := eq_false (by decide +kernel)
@[simp] theorem b_has_either : (("has" : Str) == ("either" : Str)) = false := by decide +kernel
@[simp] theorem w_has_some : (("has" : Str) = ("some" : Str)) = False := eq_false (by decide +kernel)
@[simp] theorem b_has_some : (("has" : Str) == ("some" : Str)) = false := by decide +kernel
@[simp] theorem w_has_every : (("has" : Str) = ("every" : Str)) = False := eq_false (by decide +kernel)
@[simp] theorem b_has_every : (("has" : Str) == ("every" : Str)) = false := by decide +kernel
@[simp] theorem w_has_someone : (("has" : Str) = ("someone" : Str)) = False := eq_false (by decide +kernel)
@[simp] theorem b_has_someone : (("has" : Str) == ("someone" : Str)) = false := by decide +kernel
@[simp] theorem w_has_each : (("has" : Str) = ("each" : Str)) = False := eq_false (by decide +kernel)
@[simp] theorem b_has_each : (("has" : Str) == ("each" : Str)) = false := by decide +kernel
@[simp] theorem w_has_empty : (("has" : Str) = ("empty" : Str)) = False := eq_false (by decide +kernel)
@[simp] theorem b_has_empty : (("has" : Str) == ("empty" : Str)) = false := by decide +kernel
@[simp] theorem w_has_one : (("has" : Str) = ("one" : Str)) = False := eq_false (by decide +kernel)
@[simp] theorem b_has_one : (("has" : Str) == ("one" : Str)) = false := by decide +kernel
@[simp] theorem w_has_in : (("has" : Str) = ("in" : Str)) = False := eq_false (by decide +kernel)
@[simp] theorem b_has_in : (("has" : Str) == ("in" : Str)) = false := by decide +kernel
@[simp] theorem w_has_before : (("has" : Str) = ("before" : Str)) = False := eq_false (by decide +kernel)
@[simp] theorem b_has_before : (("has" : Str) == ("before" : Str)) = false := by decide +kernel
@[simp] theorem w_has_next : (("has" : Str) = ("next" : Str)) = False := eq_false (by decide +kernel)
@[simp] theorem b_has_next : (("has" : Str) == ("next" : Str)) = false := by decide +kernel
end L2.Sy

/-! SyB: which values are sayings. Own work. -/
namespace L2.Sy
open PySem L2.Iv L2.Tm
section
variable {st : Store} {w a b c d : Str}
theorem in_two : inP (.str w) [.str a, .str b] = decide (w = a ∨ w = b) := by
  unfold inP
  simp only [List.any_cons, List.any_nil, Bool.or_false, toV]
  have e : ∀ x : Str, eqV (.str x) (.str w) = decide (w = x) := fun x => by
    show (x == w) = _
    by_cases h : w = x
    · subst h; simp
    · rw [decide_eq_false h]
      simpa using fun z => h z.symm
  rw [e, e, Bool.decide_or]
theorem in_more {xs : List PV} : inP (.str w) (.str a :: xs) = (decide (w = a) || inP (.str w) xs) := by
  unfold inP
  simp only [List.any_cons, toV]
  congr 1
  show (a == w) = _
  by_cases h : w = a
  · subst h; simp
  · rw [decide_eq_false h]
    simpa using fun z => h z.symm
theorem in_nil {x : PV} : inP x [] = false := rfl
@[simp] theorem in2 : cmpV .isin st (.str w) (.tup [.str a, .str b]) = some (decide (w = a ∨ w = b)) := by
  simp [cmpV, flatP, in_two]
@[simp] theorem in3 : cmpV .isin st (.str w) (.tup [.str a, .str b, .str c]) = some (decide (w = a ∨ w = b ∨ w = c)) := by
  simp [cmpV, flatP, in_more, in_nil]
@[simp] theorem in4 : cmpV .isin st (.str w) (.tup [.str a, .str b, .str c, .str d]) = some (decide (w = a ∨ w = b ∨ w = c ∨ w = d)) := by
  simp [cmpV, flatP, in_more, in_nil]
end
/-- an int from 0 to m -/
def upTo (m : Int) : PV → Bool
  | .int i => decide (0 ≤ i ∧ i ≤ m)
  | _ => false
/-- what sort of word: not, of two sayings, of a set, of one set, has, of two sets, none -/
def kind (w : Str) : Nat :=
  if w = ("not" : Str) then 0 else if w = ("both" : Str) ∨ w = ("either" : Str) then 1 else if w = ("some" : Str) ∨ w = ("every" : Str) ∨ w = ("someone" : Str) ∨ w = ("each" : Str) then 2
  else if w = ("empty" : Str) ∨ w = ("one" : Str) then 3 else if w = ("has" : Str) then 4 else if w = ("in" : Str) ∨ w = ("before" : Str) ∨ w = ("next" : Str) then 5 else 6
def headOk (k : Int) (c : Nat) (r : List PV) : Bool := match c, r with
  | 0, [_] => true
  | 1, [_, _] => true
  | 2, [a, _] => upTo 2 a
  | 3, [a] => upTo 2 a
  | 4, [a, b] => upTo 2 a && upTo (k - 1) b
  | 5, [a, b] => upTo 2 a && upTo 2 b
  | _, _ => false
def subs (c : Nat) (r : List PV) : List PV := match c with
  | 0 => r
  | 1 => r
  | 2 => r.drop 1
  | _ => []
def must (k : Int) : PV → Option (List PV)
  | .tup (.str w :: r) => if headOk k (kind w) r = true then some (subs (kind w) r) else none
  | _ => none
mutual
def isSay (k : Int) : PV → Bool
  | .tup xs => isSl k xs
  | .int _ => false
  | .non => false
  | .bl _ => false
  | .str _ => false
  | .lsv _ => false
  | .loc _ => false
  | .exn .. => false
def isSl (k : Int) : List PV → Bool
  | [] => false
  | x :: r => match x with
    | .str w => headOk k (kind w) r && (match kind w with
      | 0 => isSs k r
      | 1 => isSs k r
      | 2 => isSt k r
      | _ => true)
    | _ => false
def isSt (k : Int) : List PV → Bool
  | [] => true
  | _ :: r => isSs k r
def isSs (k : Int) : List PV → Bool
  | [] => true
  | x :: r => isSay k x && isSs k r
end
theorem say_must (k : Int) (v : PV) : isSay k v = match must k v with
    | some xs => isSs k xs
    | none => false := by
  cases v with
  | tup xs =>
    match xs with
    | [] => rfl
    | .str w :: r =>
      show isSl k (.str w :: r) = _
      unfold isSl must
      cases h : headOk k (kind w) r with
      | false => simp only [h, Bool.false_and, Bool.false_eq_true, if_false]
      | true =>
        simp only [h, Bool.true_and, if_true]
        unfold subs
        split
        · rfl
        · rfl
        · cases r <;> rfl
        · rfl
    | .int _ :: _ => rfl
    | .non :: _ => rfl
    | .bl _ :: _ => rfl
    | .tup _ :: _ => rfl
    | .lsv _ :: _ => rfl
    | .loc _ :: _ => rfl
    | .exn .. :: _ => rfl
  | _ => rfl
theorem isSs_app (k : Int) (a b : List PV) : isSs k (a ++ b) = (isSs k a && isSs k b) := by
  induction a with
  | nil => simp [isSs]
  | cons x a ih => rw [List.cons_append, isSs, isSs, ih, Bool.and_assoc]
theorem subs_wts (c : Nat) (r : List PV) : wts (subs c r) ≤ wts r := by
  unfold subs
  split
  · exact Nat.le_refl _
  · exact Nat.le_refl _
  · cases r with
    | nil => exact Nat.le_refl _
    | cons x r => show wts r ≤ wts (x :: r); rw [wts]; omega
  · exact Nat.zero_le _
theorem must_wt {k : Int} {v : PV} {xs : List PV} (h : must k v = some xs) : wts xs < wt v := by
  unfold must at h
  split at h
  · split at h
    · cases h
      rename_i w r _
      have := subs_wts (kind w) r
      rw [wt, wts, wt]; omega
    · cases h
  · cases h
theorem subs_fit (c n : Nat) {r : List PV} (h : fits n r = true) : fits n (subs c r) = true := by
  unfold subs
  split
  · exact h
  · exact h
  · cases r with
    | nil => exact h
    | cons x r =>
      have h : (fit n x && fits n r) = true := h
      rw [Bool.and_eq_true] at h
      exact h.2
  · rfl
theorem must_fit {k : Int} {v : PV} {xs : List PV} (h : must k v = some xs) (n : Nat) (hf : fit (n + 1) v = true) : fits n xs = true := by
  unfold must at h
  split at h
  · split at h
    · cases h
      rename_i w r _
      have hf : (fit n (.str w) && fits n r) = true := hf
      rw [Bool.and_eq_true] at hf
      exact subs_fit _ _ hf.2
    · cases h
  · cases h
end L2.Sy

/-! SyP: the defs about sayings as terms of the language. Printed, own work. -/
namespace L2.Sy
open PySem L2.Iv
def f_is_set_name : Fn where
  ps := ["told"]
  N := ["told"]
  body := (.cons (.ret (.call "is_between" (.cons (.v 0) (.cons (.c (.int 0)) (.cons (.bin .sub true (.g "MOST_SETS") (.c (.int 1))) .nil))))) <|
  .nil)
  mt := false
def f_are_names : Fn where
  ps := ["k", "word", "rest"]
  N := ["k", "word", "rest"]
  body := (.cons (.iff (.cmp .isin (.v 1) (.g "OF_ONE_SET")) (.cons (.ret (.ands (.cons (.cmp .eq (.bi .len true (.cons (.v 2) .nil)) (.c (.int 1))) (.cons (.call "is_set_name" (.cons (.ix (.v 2) (.c (.int 0))) .nil)) .nil)))) <|
    .nil) (.nil)) <|
  .cons (.iff (.ors (.cons (.cmp .ne (.bi .len true (.cons (.v 2) .nil)) (.c (.int 2))) (.cons (.nt (.call "is_set_name" (.cons (.ix (.v 2) (.c (.int 0))) .nil))) .nil))) (.cons (.ret (.c (.bl false))) <|
    .nil) (.nil)) <|
  .cons (.iff (.cmp .eq (.v 1) (.c (.str "has"))) (.cons (.ret (.call "is_between" (.cons (.ix (.v 2) (.c (.int 1))) (.cons (.c (.int 0)) (.cons (.bin .sub true (.v 0) (.c (.int 1))) .nil))))) <|
    .nil) (.nil)) <|
  .cons (.ret (.ands (.cons (.cmp .isin (.v 1) (.g "OF_TWO_SETS")) (.cons (.call "is_set_name" (.cons (.ix (.v 2) (.c (.int 1))) .nil)) .nil)))) <|
  .nil)
  mt := false
def f_must_be : Fn where
  ps := ["k", "told"]
  N := ["k", "told", "word", "rest"]
  body := (.cons (.iff (.ors (.cons (.nt (.isi (.v 1) "tuple")) (.cons (.cmp .eq (.bi .len true (.cons (.v 1) .nil)) (.c (.int 0))) (.cons (.nt (.isi (.ix (.v 1) (.c (.int 0))) "str")) .nil)))) (.cons (.ret (.c .non)) <|
    .nil) (.nil)) <|
  .cons (.asg (.p (.t2 (.n 2) (.n 3))) (.tup (.cons (.ix (.v 1) (.c (.int 0))) (.cons (.slF true (.v 1) (.c (.int 1))) .nil)))) <|
  .cons (.iff (.cmp .eq (.v 2) (.c (.str "not"))) (.cons (.ret (.ite (.cmp .eq (.bi .len true (.cons (.v 3) .nil)) (.c (.int 1))) (.v 3) (.c .non))) <|
    .nil) (.nil)) <|
  .cons (.iff (.cmp .isin (.v 2) (.g "OF_TWO_SAYINGS")) (.cons (.ret (.ite (.cmp .eq (.bi .len true (.cons (.v 3) .nil)) (.c (.int 2))) (.v 3) (.c .non))) <|
    .nil) (.nil)) <|
  .cons (.iff (.cmp .isin (.v 2) (.g "OF_A_SET")) (.cons (.ret (.ite (.ands (.cons (.cmp .eq (.bi .len true (.cons (.v 3) .nil)) (.c (.int 2))) (.cons (.call "is_set_name" (.cons (.ix (.v 3) (.c (.int 0))) .nil)) .nil))) (.slF true (.v 3) (.c (.int 1))) (.c .non))) <|
    .nil) (.nil)) <|
  .cons (.ret (.ite (.call "are_names" (.cons (.v 0) (.cons (.v 2) (.cons (.v 3) .nil)))) (.tup .nil) (.c .non))) <|
  .nil)
  mt := false
def f_is_saying_of : Fn where
  ps := ["k", "told"]
  N := ["k", "told", "waiting", "inner"]
  body := (.cons (.asg (.p (.n 2)) (.lst false (.cons (.v 1) .nil))) <|
  .cons (.wh (.cmp .gt (.bi .len true (.cons (.v 2) .nil)) (.c (.int 0))) (.cons (.asg (.p (.n 3)) (.call "must_be" (.cons (.v 0) (.cons (.me .pop 2 .nil) .nil)))) <|
    .cons (.iff (.cmp .is (.v 3) (.c .non)) (.cons (.ret (.c (.bl false))) <|
      .nil) (.nil)) <|
    .cons (.expr (.me .extend 2 (.cons (.v 3) .nil))) <|
    .nil)) <|
  .cons (.ret (.c (.bl true))) <|
  .nil)
  mt := false
def f_check_saying : Fn where
  ps := ["k", "saying"]
  N := ["k", "saying"]
  body := (.cons (.iff (.nt (.call "is_saying_of" (.cons (.v 0) (.cons (.v 1) .nil)))) (.cons (.rs "InvalidSaying" (.v 1)) <|
    .nil) (.nil)) <|
  .nil)
  mt := false
def f_inner_parts : Fn where
  ps := ["saying"]
  N := ["saying"]
  body := (.cons (.iff (.ors (.cons (.cmp .eq (.ix (.v 0) (.c (.int 0))) (.c (.str "not"))) (.cons (.cmp .isin (.ix (.v 0) (.c (.int 0))) (.g "OF_TWO_SAYINGS")) .nil))) (.cons (.ret (.slF true (.v 0) (.c (.int 1)))) <|
    .nil) (.nil)) <|
  .cons (.ret (.ite (.cmp .isin (.ix (.v 0) (.c (.int 0))) (.g "OF_A_SET")) (.slF true (.v 0) (.c (.int 2))) (.tup .nil))) <|
  .nil)
  mt := false
def f_is_atom : Fn where
  ps := ["saying"]
  N := ["saying"]
  body := (.cons (.ret (.cmp .eq (.bi .len true (.cons (.call "inner_parts" (.cons (.v 0) .nil)) .nil)) (.c (.int 0)))) <|
  .nil)
  mt := false
def f_free_of : Fn where
  ps := ["saying"]
  N := ["saying", "named", "part", "name"]
  body := (.cons (.iff (.call "is_atom" (.cons (.v 0) .nil)) (.cons (.asg (.p (.n 1)) (.ite (.cmp .eq (.ix (.v 0) (.c (.int 0))) (.c (.str "has"))) (.slA true (.v 0) (.c (.int 1)) (.c (.int 2))) (.slF true (.v 0) (.c (.int 1))))) <|
    .nil) (.cons (.asg (.p (.n 1)) (.lc2 true [2, 3] (.n 2) (.val (.call "inner_parts" (.cons (.v 0) .nil))) .nil [3] (.n 3) (.val (.call "free_of" (.cons (.v 2) .nil))) .nil (.v 3))) <|
    .nil)) <|
  .cons (.iff (.cmp .isin (.ix (.v 0) (.c (.int 0))) (.g "OF_A_SET")) (.cons (.asg (.p (.n 1)) (.lc true [3] (.n 3) (.val (.v 1)) (.cons (.cmp .ne (.v 3) (.ix (.v 0) (.c (.int 1)))) .nil) (.v 3))) <|
    .nil) (.nil)) <|
  .cons (.ret (.bi .tuple true (.cons (.srt true [3] (.n 3) (.val (.v 1)) (.v 3)) .nil))) <|
  .nil)
  mt := false
def f_parts_of : Fn where
  ps := ["saying"]
  N := ["saying", "inner", "part"]
  body := (.cons (.ret (.bin .add true (.lc2 true [1, 2] (.n 1) (.val (.call "inner_parts" (.cons (.v 0) .nil))) .nil [2] (.n 2) (.val (.call "parts_of" (.cons (.v 1) .nil))) .nil (.v 2)) (.lst true (.cons (.v 0) .nil)))) <|
  .nil)
  mt := false
def gl_MOST_SETS : PV := (.int 3)
def gl_OF_ONE_SET : PV := (.tup [(.str "empty"), (.str "one")])
def gl_OF_TWO_SETS : PV := (.tup [(.str "in"), (.str "before"), (.str "next")])
def gl_OF_TWO_SAYINGS : PV := (.tup [(.str "both"), (.str "either")])
def gl_OF_A_SET : PV := (.tup [(.str "some"), (.str "every"), (.str "someone"), (.str "each")])
end L2.Sy

/-! SyC: what the defs about sayings compute. Own work. -/
namespace L2.Sy
open PySem L2.Iv L2.Tm
open L2.P (e_is_integer e_is_between)
structure HasSy (g : Sg) : Prop where
  i1 : L2.P.At g "is_integer" L2.P.f_is_integer
  i2 : L2.P.At g "is_between" L2.P.f_is_between
  sn : L2.P.At g "is_set_name" f_is_set_name
  an : L2.P.At g "are_names" f_are_names
  mb : L2.P.At g "must_be" f_must_be
  so : L2.P.At g "is_saying_of" f_is_saying_of
  gS : L2.P.Glb g "MOST_SETS" gl_MOST_SETS
  g1 : L2.P.Glb g "OF_ONE_SET" gl_OF_ONE_SET
  g2 : L2.P.Glb g "OF_TWO_SETS" gl_OF_TWO_SETS
  gB : L2.P.Glb g "OF_TWO_SAYINGS" gl_OF_TWO_SAYINGS
  gA : L2.P.Glb g "OF_A_SET" gl_OF_A_SET
@[simp] theorem ln30 {α : Type} (l : List α) : ((l.length : Int) + 1 + 1 + 1 == 0) = false := by simp; omega
@[simp] theorem ln40 {α : Type} (l : List α) : ((l.length : Int) + 1 + 1 + 1 + 1 == 0) = false := by simp; omega
@[simp] theorem ln21 {α : Type} (l : List α) : ((l.length : Int) + 1 + 1 == 1) = false := by simp; omega
@[simp] theorem ln31 {α : Type} (l : List α) : ((l.length : Int) + 1 + 1 + 1 == 1) = false := by simp; omega
@[simp] theorem ln32 {α : Type} (l : List α) : ((l.length : Int) + 1 + 1 + 1 == 2) = false := by simp; omega
@[simp] theorem ln42 {α : Type} (l : List α) : ((l.length : Int) + 1 + 1 + 1 + 1 == 2) = false := by simp; omega
@[simp] theorem ln43 {α : Type} (l : List α) : ((l.length : Int) + 1 + 1 + 1 + 1 == 3) = false := by simp; omega
@[simp] theorem ln22 {α : Type} (l : List α) : ((l.length : Int) + 1 + 1 < 2) = False := eq_false (by omega)
section
variable {g : Sg} {cl : Str → Nat} {n : Nat} {st : Store} {v : PV}
theorem upTo_btw (m : Int) (v : PV) : L2.P.btw 0 m v = upTo m v := by cases v <;> rfl
theorem e_set_name (S : HasSy g) (hv : v.data = true) : (g.ctx cl (n + 3)).fn "is_set_name" [v] st = .ok (.bl (upTo 2 v)) st := by
  have hS : g.gl.lookup ("MOST_SETS" : Str) = some (.int 3) := S.gS
  have eb := fun st => e_is_between (cl := cl) (n := n) (st := st) (lo := 0) (hi := 2) S.i2 S.i1 hv
  refine fn_eq S.sn rfl rfl (by simp [freeAll, data_free v hv]) ?_
  simp [f_is_set_name, env0, wp_ss, hS, eb, upTo_btw]
def namesOk (k : Int) (w : Str) (r : List PV) : Bool := headOk k (kind w) r && decide (3 ≤ kind w)
theorem e_are_names (S : HasSy g) {k : Int} {w : Str} {r : List PV} (hr : dataAll r = true) (h0 : ¬ w = ("not" : Str)) (h1 : ¬ (w = ("both" : Str) ∨ w = ("either" : Str))) (h2 : ¬ (w = ("some" : Str) ∨ w = ("every" : Str) ∨ w = ("someone" : Str) ∨ w = ("each" : Str))) :
    (g.ctx cl (n + 4)).fn "are_names" [.int k, .str w, .tup r] st = .ok (.bl (headOk k (kind w) r)) st := by
  have o1 : g.gl.lookup ("OF_ONE_SET" : Str) = some (.tup [.str "empty", .str "one"]) := S.g1
  have o2 : g.gl.lookup ("OF_TWO_SETS" : Str) = some (.tup [.str "in", .str "before", .str "next"]) := S.g2
  have hk : kind w = if w = ("empty" : Str) ∨ w = ("one" : Str) then 3 else if w = ("has" : Str) then 4 else if w = ("in" : Str) ∨ w = ("before" : Str) ∨ w = ("next" : Str) then 5 else 6 := by
    unfold kind; rw [if_neg h0, if_neg h1, if_neg h2]
  refine fn_eq S.an rfl rfl (by simp [freeAll, PV.free, data_frees r hr]) ?_
  have es := fun (v : PV) (hv : v.data = true) st => e_set_name (cl := cl) (n := n) (st := st) S hv
  have eb := fun (v : PV) (hv : v.data = true) st => e_is_between (cl := cl) (n := n + 1) (v := v) (st := st) (lo := 0) (hi := k - 1) S.i2 S.i1 hv
  simp only [f_are_names, env0]
  rw [hk]
  by_cases c1 : w = ("empty" : Str) ∨ w = ("one" : Str)
  · rw [if_pos c1]
    match r, hr with
    | [], _ => simp [wp_ss, o1, c1, headOk]
    | [a], hr =>
      have ha : a.data = true := by simpa [dataAll] using hr
      simp [wp_ss, o1, c1, headOk, es a ha]
    | a :: b :: r, hr => simp [wp_ss, o1, c1, headOk]
  · rw [if_neg c1]
    match r, hr with
    | [], _ =>
      simp [wp_ss, o1, c1]
      by_cases c2 : w = ("has" : Str)
      · rw [if_pos c2]; rfl
      · rw [if_neg c2]; split <;> rfl
    | [a], hr =>
      simp [wp_ss, o1, c1]
      by_cases c2 : w = ("has" : Str)
      · rw [if_pos c2]; rfl
      · rw [if_neg c2]; split <;> rfl
    | [a, b], hr =>
      have hab : a.data = true ∧ b.data = true := by simpa [dataAll] using hr
      obtain ⟨ha, hb⟩ := hab
      cases hsa : upTo 2 a with
      | false =>
        have : headOk k (if w = ("has" : Str) then 4 else if w = ("in" : Str) ∨ w = ("before" : Str) ∨ w = ("next" : Str) then 5 else 6) [a, b] = false := by
          split
          · simp [headOk, hsa]
          · split <;> simp [headOk, hsa]
        rw [this]
        simp [wp_ss, o1, c1, es a ha, hsa]
      | true =>
        by_cases c2 : w = ("has" : Str)
        · subst c2
          simp [wp_ss, o1, c1, es a ha, hsa, eb b hb, headOk, upTo_btw]
        · have c3 : (w == ("has" : Str)) = false := by simpa using c2
          by_cases c4 : w = ("in" : Str) ∨ w = ("before" : Str) ∨ w = ("next" : Str)
          · simp [wp_ss, o1, o2, c1, c2, c3, c4, es a ha, es b hb, hsa, headOk]
          · simp [wp_ss, o1, o2, c1, c2, c3, c4, es a ha, es b hb, hsa, headOk]
    | a :: b :: c :: r, hr =>
      have : headOk k (if w = ("has" : Str) then 4 else if w = ("in" : Str) ∨ w = ("before" : Str) ∨ w = ("next" : Str) then 5 else 6) (a :: b :: c :: r) = false := by
        split
        · rfl
        · split <;> rfl
      rw [this]
      simp [wp_ss, o1, c1]
end
end L2.Sy

/-! SyD: more of what the defs about sayings compute. Own work. -/
namespace L2.Sy
open PySem L2.Iv L2.Tm
section
variable {g : Sg} {cl : Str → Nat} {n : Nat} {st : Store} {v : PV}
theorem e_must_be (S : HasSy g) {k : Int} (hv : fit 64 v = true) : (g.ctx cl (n + 5)).fn "must_be" [.int k, v] st = .ok (match must k v with | some xs => .tup xs | none => .non) st := by
  have hd := fit_data hv
  have o1 : g.gl.lookup ("OF_TWO_SAYINGS" : Str) = some (.tup [.str "both", .str "either"]) := S.gB
  have o2 : g.gl.lookup ("OF_A_SET" : Str) = some (.tup [.str "some", .str "every", .str "someone", .str "each"]) := S.gA
  refine fn_eq S.mb rfl rfl (by simp [freeAll, data_free v hd, PV.free]) ?_
  simp only [f_must_be, env0]
  cases v <;> first | (cases hd; done) | skip
  case tup xs =>
    match xs, hv, hd with
    | [], hv, hd => simp [wp_ss, must]
    | .str w :: r, hv, hd =>
      have hr : dataAll r = true := by
        have hd : (true && dataAll r) = true := hd
        simpa using hd
      have fr : ∀ s, frz 0 s 64 (.tup r) = some (.tup r) := fun s => frz_free (data_frees r hr)
      have en := fun (h0) (h1) (h2) st => e_are_names (cl := cl) (n := n) (st := st) (k := k) (w := w) (r := r) S hr h0 h1 h2
      have es := fun (v : PV) (hv : v.data = true) st => e_set_name (cl := cl) (n := n + 1) (st := st) S hv
      by_cases c0 : w = ("not" : Str)
      · subst c0
        have hk : kind ("not" : Str) = 0 := by decide +kernel
        match r, hr, fr with
        | [], _, fr => simp [wp_ss, must, hk, headOk]
        | [a], _, fr => simp [wp_ss, must, hk, headOk, subs, fr]
        | a :: b :: r, _, fr => simp [wp_ss, must, hk, headOk]
      · have b0 : (w == ("not" : Str)) = false := by simpa using c0
        by_cases c1 : w = ("both" : Str) ∨ w = ("either" : Str)
        · have hk : kind w = 1 := by unfold kind; rw [if_neg c0, if_pos c1]
          match r, hr, fr with
          | [], _, fr => simp [wp_ss, must, hk, headOk, b0, o1, c1]
          | [a], _, fr => simp [wp_ss, must, hk, headOk, b0, o1, c1]
          | [a, b], _, fr => simp [wp_ss, must, hk, headOk, subs, fr, b0, o1, c1]
          | a :: b :: c :: r, _, fr => simp [wp_ss, must, hk, headOk, b0, o1, c1]
        · by_cases c2 : w = ("some" : Str) ∨ w = ("every" : Str) ∨ w = ("someone" : Str) ∨ w = ("each" : Str)
          · have hk : kind w = 2 := by unfold kind; rw [if_neg c0, if_neg c1, if_pos c2]
            match r, hr, fr with
            | [], _, fr => simp [wp_ss, must, hk, headOk, b0, o1, c1, o2, c2]
            | [a], _, fr => simp [wp_ss, must, hk, headOk, b0, o1, c1, o2, c2]
            | [a, b], hr, fr =>
              have hab : a.data = true ∧ b.data = true := by simpa [dataAll] using hr
              have fb : ∀ s, frz 0 s 64 (.tup [b]) = some (.tup [b]) := fun s => frz_free (by show freeAll [b] = true; simp [freeAll, data_free b hab.2])
              cases hs : upTo 2 a with
              | true => simp [wp_ss, must, hk, headOk, subs, fb, b0, o1, c1, o2, c2, es a hab.1, hs]
              | false => simp [wp_ss, must, hk, headOk, subs, fb, b0, o1, c1, o2, c2, es a hab.1, hs]
            | a :: b :: c :: r, _, fr => simp [wp_ss, must, hk, headOk, b0, o1, c1, o2, c2]
          · have hsub : subs (kind w) r = [] := by
              have hk : kind w = if w = ("empty" : Str) ∨ w = ("one" : Str) then 3 else if w = ("has" : Str) then 4 else if w = ("in" : Str) ∨ w = ("before" : Str) ∨ w = ("next" : Str) then 5 else 6 := by
                unfold kind; rw [if_neg c0, if_neg c1, if_neg c2]
              rw [hk]
              split
              · rfl
              · split
                · rfl
                · split <;> rfl
            have fe : ∀ s, frz 0 s 64 (.tup []) = some (.tup []) := fun s => frz_free rfl
            cases hh : headOk k (kind w) r with
            | true => simp [wp_ss, must, hh, hsub, b0, o1, c1, o2, c2, en c0 c1 c2, fe]
            | false => simp [wp_ss, must, hh, hsub, b0, o1, c1, o2, c2, en c0 c1 c2]
    | .int _ :: _, hv, hd => simp [wp_ss, must]
    | .non :: _, hv, hd => simp [wp_ss, must]
    | .bl _ :: _, hv, hd => simp [wp_ss, must]
    | .tup _ :: _, hv, hd => simp [wp_ss, must]
    | .lsv _ :: _, hv, hd => simp [wp_ss, must]
  all_goals simp [wp_ss, must]
theorem e_is_saying_of (S : HasSy g) {k : Int} (hv : fit 64 v = true) (hl : wt v ≤ 1000000) :
    (g.ctx cl (n + 6)).fn "is_saying_of" [.int k, v] st = .ok (.bl (isSay k v)) st := by
  have hd := fit_data hv
  refine fn_eq S.so rfl rfl (by simp [freeAll, data_free v hd, PV.free]) ?_
  simp only [f_is_saying_of, env0]
  rw [wp_ss]
  simp
  rw [wp_ss, r_swh]
  have big : 1000000 ≤ sizeLine := by decide
  obtain ⟨I, hI⟩ : ∃ I : Nat → Iv.Env → Store → Prop, I = fun m env st' => ∃ ws u, env = [some (.int k), some v, some (.loc 0), u] ∧ st' = [ws] ∧ wts ws = m ∧ isSs k ws = isSay k v ∧ fits 64 ws = true ∧ m ≤ 1000000 := ⟨_, rfl⟩
  refine wp_while I ?_ wfuel (wt v) _ _ (by show wt v < 1000000000; omega) (by rw [hI]; exact ⟨[v], none, rfl, rfl, by simp [wts], by simp [isSs], by show (fit 64 v && true) = true; rw [hv]; rfl, hl⟩)
  intro m env st' hh
  rw [hI] at hh
  obtain ⟨ws, u, rfl, rfl, hm, ht, hf, hb⟩ := hh
  cases ws with
  | nil =>
    have ht : isSay k v = true := ht.symm
    simp
    rw [wp_ss]
    simp [ht]
  | cons x ws =>
    obtain ⟨l, y, e⟩ := L2.P.last_split x ws
    rw [e] at hm ht hf ⊢
    have hy : fit 64 y = true := by
      rw [fits_all, List.all_append, Bool.and_eq_true] at hf
      have := hf.2
      simpa using this
    have hfl : fits 64 l = true := by
      rw [fits_all, List.all_append, Bool.and_eq_true] at hf
      rw [fits_all]; exact hf.1
    rw [wts_app] at hm
    have hwy : wts [y] = wt y := by simp [wts]
    rw [hwy] at hm
    have hpos := wt_pos y
    have ei := fun st => e_must_be (cl := cl) (n := n) (st := st) (k := k) S hy
    rw [isSs_app] at ht
    have hiy : isSs k [y] = isSay k y := by simp [isSs]
    rw [hiy, say_must k y] at ht
    have hlen := wts_len l
    simp
    rw [wp_ss]
    simp [ei]
    rw [wp_ss]
    cases hin : must k y with
    | none =>
      rw [hin] at ht
      simp [wp_ss]
      simpa using ht
    | some zs =>
      rw [hin] at ht
      have hz := must_wt hin
      have hzl := wts_len zs
      simp
      rw [wp_ss]
      simp
      refine ⟨by omega, ?_⟩
      rw [hI]
      refine ⟨wts (l ++ zs), by rw [wts_app]; omega, l ++ zs, _, rfl, rfl, rfl, by rw [isSs_app]; exact ht, ?_, by rw [wts_app]; omega⟩
      rw [fits_all, List.all_append, Bool.and_eq_true]
      rw [fits_all] at hfl
      refine ⟨hfl, ?_⟩
      have := must_fit hin 63 hy
      rw [← fits_all]
      exact fits_up zs 63 64 (by omega) this
theorem e_check_saying (h : L2.P.At g "check_saying" f_check_saying) (S : HasSy g) (he : L2.P.Ec g "InvalidSaying") {k : Int} (hv : fit 64 v = true) (hl : wt v ≤ 1000000) :
    (g.ctx cl (n + 7)).fn "check_saying" [.int k, v] st = if isSay k v = true then .ok .non st else .exc "InvalidSaying" v st := by
  have hd := fit_data hv
  have fr : freeAll [.int k, v] = true := by simp [freeAll, data_free v hd, PV.free]
  have ei := fun st => e_is_saying_of (cl := cl) (n := n) (st := st) (k := k) S hv hl
  have he : (g.ecs.lookup ("InvalidSaying" : Str)).isSome = true := he
  by_cases ht : isSay k v = true
  · rw [if_pos ht]
    refine fn_eq h rfl rfl fr ?_
    simp [f_check_saying, env0, wp_ss, ei, ht]
  · rw [if_neg ht]
    refine fn_exc h rfl fr ?_
    have ht : isSay k v = false := by simpa using ht
    simp [f_check_saying, env0, wp_ss, ei, ht, he, frz_free (data_free v hd)]
end
end L2.Sy

/-! SyE: sayings as Lean data; their free sets, their parts. Own work. -/
namespace L2.Sy
open PySem L2.Iv L2.Tm
inductive S where
  | a1 (w : Str) (a : Nat) | a2 (w : Str) (a b : Nat) | has (a b : Nat) | neg (s : S) | two (w : Str) (s t : S) | qu (w : Str) (a : Nat) (s : S)
def encS : S → PV
  | .a1 w a => .tup [.str w, .int a]
  | .a2 w a b => .tup [.str w, .int a, .int b]
  | .has a b => .tup [.str "has", .int a, .int b]
  | .neg s => .tup [.str "not", encS s]
  | .two w s t => .tup [.str w, encS s, encS t]
  | .qu w a s => .tup [.str w, .int a, encS s]
def wfS (k : Nat) : S → Prop
  | .a1 w a => (w = ("empty" : Str) ∨ w = ("one" : Str)) ∧ a < 3
  | .a2 w a b => (w = ("in" : Str) ∨ w = ("before" : Str) ∨ w = ("next" : Str)) ∧ a < 3 ∧ b < 3
  | .has a b => a < 3 ∧ b < k
  | .neg s => wfS k s
  | .two w s t => (w = ("both" : Str) ∨ w = ("either" : Str)) ∧ wfS k s ∧ wfS k t
  | .qu w a s => (w = ("some" : Str) ∨ w = ("every" : Str) ∨ w = ("someone" : Str) ∨ w = ("each" : Str)) ∧ a < 3 ∧ wfS k s
/-- nodes -/
def nd : S → Nat
  | .a1 .. => 1
  | .a2 .. => 1
  | .has .. => 1
  | .neg s => 1 + nd s
  | .two _ s t => 1 + nd s + nd t
  | .qu _ _ s => 1 + nd s
theorem upTo_nat {m : Nat} {v : PV} (h : upTo m v = true) : ∃ a : Nat, v = .int a ∧ a ≤ m := by
  cases v <;> first | (cases h; done) | skip
  rename_i i
  have h : decide (0 ≤ i ∧ i ≤ (m : Int)) = true := h
  rw [decide_eq_true_eq] at h
  exact ⟨i.toNat, by rw [Int.toNat_of_nonneg h.1], by omega⟩
theorem kind_inv (w : Str) : (kind w = 0 ∧ w = ("not" : Str)) ∨ (kind w = 1 ∧ (w = ("both" : Str) ∨ w = ("either" : Str))) ∨ (kind w = 2 ∧ (w = ("some" : Str) ∨ w = ("every" : Str) ∨ w = ("someone" : Str) ∨ w = ("each" : Str))) ∨
    (kind w = 3 ∧ (w = ("empty" : Str) ∨ w = ("one" : Str))) ∨ (kind w = 4 ∧ w = ("has" : Str)) ∨ (kind w = 5 ∧ (w = ("in" : Str) ∨ w = ("before" : Str) ∨ w = ("next" : Str))) ∨ kind w = 6 := by
  unfold kind
  split
  · exact .inl ⟨rfl, by assumption⟩
  · split
    · exact .inr (.inl ⟨rfl, by assumption⟩)
    · split
      · exact .inr (.inr (.inl ⟨rfl, by assumption⟩))
      · split
        · exact .inr (.inr (.inr (.inl ⟨rfl, by assumption⟩)))
        · split
          · exact .inr (.inr (.inr (.inr (.inl ⟨rfl, by assumption⟩))))
          · split
            · exact .inr (.inr (.inr (.inr (.inr (.inl ⟨rfl, by assumption⟩)))))
            · exact .inr (.inr (.inr (.inr (.inr (.inr rfl)))))
theorem say_of {k : Nat} : ∀ (m : Nat) (v : PV), wt v ≤ m → isSay k v = true → ∃ s, v = encS s ∧ wfS k s := by
  intro m
  induction m with
  | zero => intro v h; have := wt_pos v; omega
  | succ m ih =>
    intro v hm h
    rw [say_must] at h
    cases hv : must k v with
    | none => rw [hv] at h; cases h
    | some xs =>
      rw [hv] at h
      have h : isSs k xs = true := h
      unfold must at hv
      split at hv
      · rename_i w r
        split at hv
        · rename_i hh
          cases hv
          have hw : wts r ≤ m := by rw [wt, wts, wt] at hm; omega
          rcases kind_inv w with ⟨hk, e⟩ | ⟨hk, e⟩ | ⟨hk, e⟩ | ⟨hk, e⟩ | ⟨hk, e⟩ | ⟨hk, e⟩ | hk
          · subst e
            rw [hk] at hh h
            match r, hh with
            | [x], _ =>
              have h : (isSay k x && true) = true := h
              rw [Bool.and_true] at h
              obtain ⟨s, rfl, h2⟩ := ih x (by simpa [wts] using hw) h
              exact ⟨.neg s, rfl, h2⟩
          · rw [hk] at hh h
            match r, hh with
            | [x, y], _ =>
              have h : (isSay k x && (isSay k y && true)) = true := h
              simp only [Bool.and_true, Bool.and_eq_true] at h
              simp only [wts, Nat.add_zero] at hw
              obtain ⟨s, rfl, h2⟩ := ih x (by omega) h.1
              obtain ⟨t, rfl, h3⟩ := ih y (by omega) h.2
              exact ⟨.two w s t, rfl, e, h2, h3⟩
          · rw [hk] at hh h
            match r, hh with
            | [a, x], hh =>
              have h : (isSay k x && true) = true := h
              rw [Bool.and_true] at h
              simp only [wts, Nat.add_zero] at hw
              obtain ⟨s, rfl, h2⟩ := ih x (by omega) h
              obtain ⟨a, rfl, ha⟩ := upTo_nat (m := 2) hh
              exact ⟨.qu w a s, rfl, e, by omega, h2⟩
          · rw [hk] at hh h
            match r, hh with
            | [a], hh =>
              obtain ⟨a, rfl, ha⟩ := upTo_nat (m := 2) hh
              exact ⟨.a1 w a, rfl, e, by omega⟩
          · subst e
            rw [hk] at hh h
            match r, hh with
            | [a, b], hh =>
              have hh : (upTo 2 a && upTo ((k : Int) - 1) b) = true := hh
              rw [Bool.and_eq_true] at hh
              obtain ⟨a, rfl, ha⟩ := upTo_nat (m := 2) hh.1
              have hb := hh.2
              obtain ⟨i, rfl⟩ : ∃ i, b = .int i := by cases b <;> first | exact ⟨_, rfl⟩ | cases hb
              have hb : decide (0 ≤ i ∧ i ≤ (k : Int) - 1) = true := hb
              rw [decide_eq_true_eq] at hb
              exact ⟨.has a i.toNat, by rw [encS, Int.toNat_of_nonneg hb.1], by omega, by omega⟩
          · rw [hk] at hh h
            match r, hh with
            | [a, b], hh =>
              have hh : (upTo 2 a && upTo 2 b) = true := hh
              rw [Bool.and_eq_true] at hh
              obtain ⟨a, rfl, ha⟩ := upTo_nat (m := 2) hh.1
              obtain ⟨b, rfl, hb⟩ := upTo_nat (m := 2) hh.2
              exact ⟨.a2 w a b, rfl, e, by omega, by omega⟩
          · rw [hk] at hh
            unfold headOk at hh
            split at hh <;> first | (rename_i z; omega) | (cases hh; done) | skip
            all_goals simp_all
        · cases hv
      · cases hv
/-- what a saying is made of -/
def sub : S → List S
  | .neg s => [s]
  | .two _ s t => [s, t]
  | .qu _ _ s => [s]
  | _ => []
theorem sub_nd {s t : S} (h : t ∈ sub s) : nd t < nd s := by
  cases s <;> simp only [sub, List.mem_cons, List.not_mem_nil, or_false] at h
  · subst h; rw [nd]; omega
  · rcases h with rfl | rfl <;> (rw [nd]; omega)
  · subst h; rw [nd]; omega
theorem sub_wf {k : Nat} {s t : S} (h : t ∈ sub s) (w : wfS k s) : wfS k t := by
  cases s <;> simp only [sub, List.mem_cons, List.not_mem_nil, or_false] at h
  · subst h; exact w
  · rcases h with rfl | rfl
    · exact w.2.1
    · exact w.2.2
  · subst h; exact w.2.2
/-- the free sets, as the program finds them -/
def frees : S → List Int
  | .a1 _ a => sortD [(a : Int)]
  | .a2 _ a b => sortD [(a : Int), b]
  | .has a _ => sortD [(a : Int)]
  | .neg s => sortD (frees s)
  | .two _ s t => sortD (frees s ++ frees t)
  | .qu _ a s => sortD ((frees s).filter fun x => x != (a : Int))
/-- as the law does -/
def named : S → List Int
  | .a1 _ a => [(a : Int)]
  | .a2 _ a b => [(a : Int), b]
  | .has a _ => [(a : Int)]
  | .neg s => named s
  | .two _ s t => named s ++ named t
  | .qu _ a s => (named s).filter fun x => x != (a : Int)
theorem frees_named : ∀ (s : S) (x : Int), x ∈ frees s ↔ x ∈ named s
  | .a1 _ a, x => by rw [frees, sortD_mem, named]
  | .a2 _ a b, x => by rw [frees, sortD_mem, named]
  | .has a _, x => by rw [frees, sortD_mem, named]
  | .neg s, x => by rw [frees, sortD_mem, named, frees_named s]
  | .two _ s t, x => by rw [frees, sortD_mem, named, List.mem_append, List.mem_append, frees_named s, frees_named t]
  | .qu _ a s, x => by rw [frees, sortD_mem, named, List.mem_filter, List.mem_filter, frees_named s]
theorem frees_sorted (s : S) : (frees s).Pairwise (· < ·) := by cases s <;> exact sortD_sorted _
theorem named_low {k : Nat} : ∀ (s : S), wfS k s → ∀ x ∈ named s, 0 ≤ x ∧ x < 3
  | .a1 _ a, w, x, h => by rw [named, List.mem_singleton] at h; subst h; have := w.2; omega
  | .a2 _ a b, w, x, h => by
    have h1 := w.2.1
    have h2 := w.2.2
    simp only [named, List.mem_cons, List.not_mem_nil, or_false] at h
    rcases h with rfl | rfl <;> omega
  | .has a _, w, x, h => by rw [named, List.mem_singleton] at h; subst h; have := w.1; omega
  | .neg s, w, x, h => named_low s w x h
  | .two _ s t, w, x, h => by
    rw [named, List.mem_append] at h
    rcases h with h | h
    · exact named_low s w.2.1 x h
    · exact named_low t w.2.2 x h
  | .qu _ a s, w, x, h => by
    rw [named, List.mem_filter] at h
    exact named_low s w.2.2 x h.1
theorem frees_law {k : Nat} {s : S} (w : wfS k s) : [(0 : Int), 1, 2].filter (fun x => decide (x ∈ named s)) = frees s := by
  refine srt_uniq (List.Pairwise.filter _ (by decide)) (frees_sorted s) fun x => ?_
  rw [List.mem_filter, frees_named, decide_eq_true_eq]
  refine ⟨fun h => h.2, fun h => ⟨?_, h⟩⟩
  have := named_low s w x h
  simp only [List.mem_cons, List.not_mem_nil, or_false]
  omega
theorem sortD_len (ns : List Int) : (sortD ns).length ≤ ns.length := by
  have : ∀ (ns a : List Int), (ns.foldl (fun a n => insD n a) a).length ≤ a.length + ns.length := by
    intro ns
    induction ns with
    | nil => intro a; exact Nat.le_refl _
    | cons n ns ih =>
      intro a
      rw [List.foldl_cons, List.length_cons]
      have h1 := ih (insD n a)
      have h2 : ∀ l : List Int, (insD n l).length ≤ l.length + 1 := by
        intro l
        induction l with
        | nil => exact Nat.le_refl _
        | cons m r ih =>
          unfold insD
          split
          · exact Nat.le_refl _
          · split
            · exact Nat.le_succ _
            · rw [List.length_cons, List.length_cons]; omega
      have := h2 a
      omega
  have := this ns []
  simpa [sortD] using this
theorem frees_len : ∀ s : S, (frees s).length ≤ 2 * nd s
  | .a1 _ a => by have := sortD_len [(a : Int)]; rw [frees, nd]; simp at this; omega
  | .a2 _ a b => by have := sortD_len [(a : Int), b]; rw [frees, nd]; simpa using this
  | .has a _ => by have := sortD_len [(a : Int)]; rw [frees, nd]; simp at this; omega
  | .neg s => by have := sortD_len (frees s); have := frees_len s; rw [frees, nd]; omega
  | .two _ s t => by have := sortD_len (frees s ++ frees t); have := frees_len s; have := frees_len t; rw [List.length_append] at *; rw [frees, nd]; omega
  | .qu _ a s => by
    have h1 := sortD_len ((frees s).filter fun x => x != (a : Int))
    have h2 := List.length_filter_le (fun x : Int => x != (a : Int)) (frees s)
    have := frees_len s
    rw [frees, nd]; omega
def prts : S → List S
  | .a1 w a => [.a1 w a]
  | .a2 w a b => [.a2 w a b]
  | .has a b => [.has a b]
  | .neg s => prts s ++ [.neg s]
  | .two w s t => prts s ++ prts t ++ [.two w s t]
  | .qu w a s => prts s ++ [.qu w a s]
theorem prts_len : ∀ s : S, (prts s).length = nd s
  | .a1 .. => rfl
  | .a2 .. => rfl
  | .has .. => rfl
  | .neg s => by rw [prts, List.length_append, prts_len s, nd]; simp; omega
  | .two _ s t => by rw [prts, List.length_append, List.length_append, prts_len s, prts_len t, nd]; simp; omega
  | .qu _ _ s => by rw [prts, List.length_append, prts_len s, nd]; simp; omega
end L2.Sy

/-! SyF: free sets and parts, walked. Own work. -/
namespace L2.Sy
open PySem L2.Iv L2.Tm
@[simp] theorem r_lc2 {C : Iv.Ctx} {env : Iv.Env} {st : Store} (fr : Bool) (own : List Nat) (p : Pt) (it : Ix) (cs : Exs) (vs2 : List Nat) (p2 : Pt) (it2 : Ix) (cs2 : Exs) (e : Ex) : evE C (.lc2 fr own p it cs vs2 p2 it2 cs2 e) env st = (evIx C it env st).bind fun xw st1 => (compF xw.2 (fun x st => match asgP p x (wipeE env own) with
      | some env1 => (evTests C cs env1 st).quiet.bind fun b st1 => if b = true then (evIx C it2 env1 st1).quiet.bind fun xw2 st2 => compF xw2.2 (fun x2 st => match asgP p2 x2 (wipeE env1 vs2) with
          | some env2 => (evTests C cs2 env2 st).quiet.bind fun b st1 => if b = true then (evE C e env2 st1).quiet.bind fun y st2 => .ok [y] st2 else .ok [] st1
          | none => .bad) xw2.1 [] st2 else .ok [] st1
      | none => .bad) xw.1 [] st1).bind fun ys st2 => newL fr ys st2 := by
  first | rfl | (simp only [evE]; done) | (rw [evE]; all_goals (intro z; cases z))
theorem free_encS : ∀ s : S, (encS s).free = true
  | .a1 w a => rfl
  | .a2 w a b => rfl
  | .has a b => rfl
  | .neg s => by show (true && ((encS s).free && true)) = true; rw [free_encS s]; rfl
  | .two w s t => by show (true && ((encS s).free && ((encS t).free && true))) = true; rw [free_encS s, free_encS t]; rfl
  | .qu w a s => by show (true && (true && ((encS s).free && true))) = true; rw [free_encS s]; rfl
structure HasF (g : Sg) : Prop where
  ip : L2.P.At g "inner_parts" f_inner_parts
  ia : L2.P.At g "is_atom" f_is_atom
  fo : L2.P.At g "free_of" f_free_of
  po : L2.P.At g "parts_of" f_parts_of
  gB : L2.P.Glb g "OF_TWO_SAYINGS" gl_OF_TWO_SAYINGS
  gA : L2.P.Glb g "OF_A_SET" gl_OF_A_SET
section
variable {g : Sg} {cl : Str → Nat}
theorem e_inner_parts (h : HasF g) {k n : Nat} {st : Store} {s : S} (w : wfS k s) : (g.ctx cl (n + 1)).fn "inner_parts" [encS s] st = .ok (.tup ((sub s).map encS)) st := by
  have o1 : g.gl.lookup ("OF_TWO_SAYINGS" : Str) = some (.tup [.str "both", .str "either"]) := h.gB
  have o2 : g.gl.lookup ("OF_A_SET" : Str) = some (.tup [.str "some", .str "every", .str "someone", .str "each"]) := h.gA
  refine fn_eq h.ip rfl rfl (by simp [freeAll, free_encS]) ?_
  have f0 : ∀ z, frz 0 z 64 (.tup []) = some (.tup []) := fun z => frz_free rfl
  have f1 : ∀ z s, frz 0 z 64 (.tup [encS s]) = some (.tup [encS s]) := fun z s => frz_free (by show freeAll [encS s] = true; simp [freeAll, free_encS])
  have f2 : ∀ z s t, frz 0 z 64 (.tup [encS s, encS t]) = some (.tup [encS s, encS t]) := fun z s t => frz_free (by show freeAll [encS s, encS t] = true; simp [freeAll, free_encS])
  simp only [f_inner_parts, env0]
  cases s with
  | a1 w a => rcases w.1 with rfl | rfl <;> simp [wp_ss, encS, sub, o1, o2, f0]
  | a2 w a b => rcases w.1 with rfl | rfl | rfl <;> simp [wp_ss, encS, sub, o1, o2, f0]
  | has a b => simp [wp_ss, encS, sub, o1, o2, f0]
  | neg s => simp [wp_ss, encS, sub, f1]
  | two w s t => rcases w.1 with rfl | rfl <;> simp [wp_ss, encS, sub, o1, o2, f2]
  | qu w a s => rcases w.1 with rfl | rfl | rfl | rfl <;> simp [wp_ss, encS, sub, o1, o2, f1]
theorem e_is_atom (h : HasF g) {k n : Nat} {st : Store} {s : S} (w : wfS k s) : (g.ctx cl (n + 2)).fn "is_atom" [encS s] st = .ok (.bl (sub s).isEmpty) st := by
  have e := fun st => e_inner_parts (cl := cl) (n := n) (st := st) h w
  refine fn_eq h.ia rfl rfl (by simp [freeAll, free_encS]) ?_
  simp only [f_is_atom, env0]
  simp [wp_ss, e]
  cases s <;> rfl
theorem free_i (ns : List Int) : freeAll (ns.map PV.int) = true := L2.V.free_ints ns
theorem sort_eval {C : Iv.Ctx} {a p q : Option PV} {v : PV} {ns : List Int} (hv : v = .tup (ns.map PV.int) ∨ v = .lsv (ns.map PV.int)) (hl : ns.length ≤ sizeLine) :
    evE C (.bi .tuple true (.cons (.srt true [3] (.n 3) (.val (.v 1)) (.v 3)) .nil)) [a, some v, p, q] [] = .ok (.tup ((sortD ns).map PV.int)) [] := by
  have hi : intsOf (ns.map PV.int) = some ns := by
    have := ints_map (fun i : Int => i) ns
    simpa using this
  rcases hv with rfl | rfl
  · simp
    rw [comp_map (o := fun i : Int => PV.int i) ns (by simp) (fun x hx => by simp) hl]
    simp [hi]
  · simp
    rw [comp_map (o := fun i : Int => PV.int i) ns (by simp) (fun x hx => by simp) hl]
    simp [hi]
theorem frz_ints (z : Store) (ns : List Int) : frz 0 z 64 (.tup (ns.map PV.int)) = some (.tup (ns.map PV.int)) := frz_free (free_i ns)
def tailF : Sxs := (.cons (.iff (.cmp .isin (.ix (.v 0) (.c (.int 0))) (.g "OF_A_SET")) (.cons (.asg (.p (.n 1)) (.lc true [3] (.n 3) (.val (.v 1)) (.cons (.cmp .ne (.v 3) (.ix (.v 0) (.c (.int 1)))) .nil) (.v 3))) .nil) (.nil)) <|
  .cons (.ret (.bi .tuple true (.cons (.srt true [3] (.n 3) (.val (.v 1)) (.v 3)) .nil))) .nil)
theorem tail_no {n : Nat} (o2 : g.gl.lookup ("OF_A_SET" : Str) = some (.tup [.str "some", .str "every", .str "someone", .str "each"])) {w : Str} {r : List PV} {v : PV} {p q : Option PV} {ns : List Int}
    (hw : ¬ (w = ("some" : Str) ∨ w = ("every" : Str) ∨ w = ("someone" : Str) ∨ w = ("each" : Str))) (hv : v = .tup (ns.map PV.int) ∨ v = .lsv (ns.map PV.int)) (hl : ns.length ≤ sizeLine) :
    wpO (evSs (g.ctx cl n) tailF [some (.tup (.str w :: r)), some v, p, q] []) fun r s2 => match r with
      | .rt u => frz 0 s2 64 u = some (.tup ((sortD ns).map PV.int))
      | .nx _ => False
      | _ => False := by
  have se := sort_eval (C := g.ctx cl n) (a := some (.tup (.str w :: r))) (p := p) (q := q) hv hl
  unfold tailF
  rw [wp_ss]
  simp [o2, hw]
  rw [wp_ss, r_sret, se]
  simp [frz_ints]
theorem tail_yes {n : Nat} (o2 : g.gl.lookup ("OF_A_SET" : Str) = some (.tup [.str "some", .str "every", .str "someone", .str "each"])) {w : Str} {a : Int} {r : List PV} {p q : Option PV} {ns : List Int}
    (hw : w = ("some" : Str) ∨ w = ("every" : Str) ∨ w = ("someone" : Str) ∨ w = ("each" : Str)) (hl : ns.length ≤ sizeLine) :
    wpO (evSs (g.ctx cl n) tailF [some (.tup (.str w :: .int a :: r)), some (.lsv (ns.map PV.int)), p, q] []) fun r s2 => match r with
      | .rt u => frz 0 s2 64 u = some (.tup ((sortD (ns.filter fun x => x != a)).map PV.int))
      | .nx _ => False
      | _ => False := by
  have hl2 : (ns.filter fun x => x != a).length ≤ sizeLine := Nat.le_trans (List.length_filter_le _ _) hl
  have se := sort_eval (C := g.ctx cl n) (a := some (.tup (.str w :: .int a :: r))) (p := p) (q := q) (v := .lsv ((ns.filter fun x => x != a).map PV.int)) (.inr rfl) hl2
  unfold tailF
  rw [wp_ss]
  simp [o2, hw]
  rw [wp_ss]
  simp
  rw [comp_if (p := fun x : Int => x != a) (o := PV.int) ns (by simp) (fun x hx => by
    by_cases hb : x = a
    · subst hb; simp
    · have hb2 : (x == a) = false := by simpa using hb
      simp [hb, hb2]) hl]
  simp
  rw [wp_ss, r_sret, se]
  simp [frz_ints]
theorem e_free_of (h : HasF g) {k : Nat} : ∀ (n : Nat) (s : S), nd s ≤ n → nd s ≤ 1000 → wfS k s → ∀ st, (g.ctx cl (n + 3)).fn "free_of" [encS s] st = .ok (.tup ((frees s).map PV.int)) st := by
  have o2 : g.gl.lookup ("OF_A_SET" : Str) = some (.tup [.str "some", .str "every", .str "someone", .str "each"]) := h.gA
  have big : 4000 ≤ sizeLine := by decide
  intro n
  induction n with
  | zero => intro s hn; cases s <;> simp [nd] at hn <;> omega
  | succ n ih =>
    intro s hn h1 w st
    refine fn_eq h.fo rfl rfl (by simp [freeAll, free_encS]) ?_
    have ea := fun st => e_is_atom (cl := cl) (n := n + 1) (st := st) h w
    have ei := fun st => e_inner_parts (cl := cl) (n := n + 2) (st := st) h w
    show wpO (evSs (g.ctx cl (n + 3)) (.cons (.iff (.call "is_atom" (.cons (.v 0) .nil)) (.cons (.asg (.p (.n 1)) (.ite (.cmp .eq (.ix (.v 0) (.c (.int 0))) (.c (.str "has"))) (.slA true (.v 0) (.c (.int 1)) (.c (.int 2))) (.slF true (.v 0) (.c (.int 1))))) .nil)
      (.cons (.asg (.p (.n 1)) (.lc2 true [2, 3] (.n 2) (.val (.call "inner_parts" (.cons (.v 0) .nil))) .nil [3] (.n 3) (.val (.call "free_of" (.cons (.v 2) .nil))) .nil (.v 3))) .nil)) tailF) [some (encS s), none, none, none] []) _
    rw [wp_ss]
    have many : ∀ (us : List S), (∀ u ∈ us, nd u ≤ n ∧ nd u ≤ 1000 ∧ wfS k u) → (us.flatMap frees).length ≤ sizeLine → (∀ st, (g.ctx cl (n + 3)).fn "inner_parts" [encS s] st = .ok (.tup (us.map encS)) st) →
        evE (g.ctx cl (n + 3)) (.lc2 true [2, 3] (.n 2) (.val (.call "inner_parts" (.cons (.v 0) .nil))) .nil [3] (.n 3) (.val (.call "free_of" (.cons (.v 2) .nil))) .nil (.v 3)) [some (encS s), none, none, none] [] = .ok (.lsv ((us.flatMap frees).map PV.int)) [] := by
      intro us hus hl hi
      simp [hi]
      rw [comp_eq (g := encS) (out := fun t => (frees t).map PV.int) (by simp) us [] (fun x hx => by
        obtain ⟨x1, x2, x3⟩ := hus x hx
        have hfl := frees_len x
        simp [ih x x1 x2 x3]
        rw [comp_map (o := fun i : Int => PV.int i) (frees x) (by simp) (fun x hx => by simp) (by omega)]) (by
          rw [List.length_nil, Nat.zero_add]
          have : (us.flatMap fun t => (frees t).map PV.int) = (us.flatMap frees).map PV.int := (List.map_flatMap).symm
          rw [this, List.length_map]; exact hl)]
      have : (us.flatMap fun t => (frees t).map PV.int) = (us.flatMap frees).map PV.int := (List.map_flatMap).symm
      simp [this]
    cases s with
    | a1 w' a =>
      have hw := w.1
      have nq : ¬ (w' = ("some" : Str) ∨ w' = ("every" : Str) ∨ w' = ("someone" : Str) ∨ w' = ("each" : Str)) := by rcases hw with rfl | rfl <;> simp
      have nh : (w' == ("has" : Str)) = false := by rcases hw with rfl | rfl <;> simp
      simp only [encS] at ea ⊢
      simp [ea, sub, nh]
      rw [wp_ss]
      simp [nh]
      exact tail_no o2 nq (ns := [(a : Int)]) (.inl rfl) (by show 1 ≤ sizeLine; omega)
    | a2 w' a b =>
      have hw := w.1
      have nq : ¬ (w' = ("some" : Str) ∨ w' = ("every" : Str) ∨ w' = ("someone" : Str) ∨ w' = ("each" : Str)) := by rcases hw with rfl | rfl | rfl <;> simp
      have nh : (w' == ("has" : Str)) = false := by rcases hw with rfl | rfl | rfl <;> simp
      simp only [encS] at ea ⊢
      simp [ea, sub, nh]
      rw [wp_ss]
      simp [nh]
      exact tail_no o2 nq (ns := [(a : Int), b]) (.inl rfl) (by show 2 ≤ sizeLine; omega)
    | has a b =>
      have hc : cutP [.str "has", .int (a : Int), .int (b : Int)] (some 1) (some 2) = [.int (a : Int)] := rfl
      simp only [encS] at ea ⊢
      simp [ea, sub]
      rw [wp_ss]
      simp [hc]
      exact tail_no (w := "has") o2 (by simp) (ns := [(a : Int)]) (.inl rfl) (by show 1 ≤ sizeLine; omega)
    | neg s' =>
      rw [nd] at hn h1
      have m := many [s'] (by simpa using ⟨by omega, by omega, w⟩) (by have := frees_len s'; simp; omega) ei
      simp only [List.flatMap_cons, List.flatMap_nil, List.append_nil] at m
      simp only [encS] at ea m ⊢
      simp only [r_siff, r_C, r_call, r_es1, r_es0, r_v, List.getElem?_cons_zero, ok_bind, ea, sub, List.isEmpty_cons, tr_bl, Out.of, ok_lift, Bool.false_eq_true, if_false]
      rw [wp_ss, r_sasg, m]
      simp
      exact tail_no (w := "not") o2 (by simp) (ns := frees s') (.inr rfl) (by have := frees_len s'; omega)
    | two w' s' t' =>
      rw [nd] at hn h1
      have hw := w.1
      have nq : ¬ (w' = ("some" : Str) ∨ w' = ("every" : Str) ∨ w' = ("someone" : Str) ∨ w' = ("each" : Str)) := by rcases hw with rfl | rfl <;> simp
      have l1 := frees_len s'
      have l2 := frees_len t'
      have m := many [s', t'] (by simpa using ⟨⟨by omega, by omega, w.2.1⟩, by omega, by omega, w.2.2⟩) (by simp; omega) ei
      simp only [List.flatMap_cons, List.flatMap_nil, List.append_nil] at m
      simp only [encS] at ea m ⊢
      simp only [r_siff, r_C, r_call, r_es1, r_es0, r_v, List.getElem?_cons_zero, ok_bind, ea, sub, List.isEmpty_cons, tr_bl, Out.of, ok_lift, Bool.false_eq_true, if_false]
      rw [wp_ss, r_sasg, m]
      simp
      have := tail_no (cl := cl) (n := n + 3) o2 nq (r := [encS s', encS t']) (p := none) (q := none) (ns := frees s' ++ frees t') (.inr rfl) (by rw [List.length_append]; omega)
      rw [List.map_append] at this
      exact this
    | qu w' a s' =>
      rw [nd] at hn h1
      have l1 := frees_len s'
      have m := many [s'] (by simpa using ⟨by omega, by omega, w.2.2⟩) (by simp; omega) ei
      simp only [List.flatMap_cons, List.flatMap_nil, List.append_nil] at m
      simp only [encS] at ea m ⊢
      simp only [r_siff, r_C, r_call, r_es1, r_es0, r_v, List.getElem?_cons_zero, ok_bind, ea, sub, List.isEmpty_cons, tr_bl, Out.of, ok_lift, Bool.false_eq_true, if_false]
      rw [wp_ss, r_sasg, m]
      simp
      exact tail_yes o2 w.1 (ns := frees s') (by omega)
theorem e_parts_of (h : HasF g) {k : Nat} : ∀ (n : Nat) (s : S), nd s ≤ n → nd s ≤ 1000 → wfS k s → ∀ st, (g.ctx cl (n + 1)).fn "parts_of" [encS s] st = .ok (.lsv ((prts s).map encS)) st := by
  have big : 4000 ≤ sizeLine := by decide
  have frl : ∀ (z : Store) (us : List S), frz 0 z 64 (.lsv (us.map encS)) = some (.lsv (us.map encS)) := fun z us => frz_free (by
    show freeAll (us.map encS) = true
    rw [freeAll_all, List.all_eq_true]
    intro x hx
    obtain ⟨s, _, rfl⟩ := List.mem_map.mp hx
    exact free_encS s)
  intro n
  induction n with
  | zero => intro s hn; cases s <;> simp [nd] at hn <;> omega
  | succ n ih =>
    intro s hn h1 w st
    refine fn_eq h.po rfl rfl (by simp [freeAll, free_encS]) ?_
    have ei := fun st => e_inner_parts (cl := cl) (n := n) (st := st) h w
    have ps : prts s = (sub s).flatMap prts ++ [s] := by cases s <;> simp [prts, sub]
    have pl := prts_len s
    rw [ps] at pl
    simp only [List.length_append, List.length_singleton] at pl
    have fm : ((sub s).flatMap fun t => (prts t).map encS) = ((sub s).flatMap prts).map encS := (List.map_flatMap).symm
    simp only [f_parts_of, env0]
    rw [wp_ss]
    simp [ei]
    rw [comp_eq (g := encS) (out := fun t => (prts t).map encS) (by simp) (sub s) [] (fun x hx => by
      have x1 := sub_nd hx
      have hpl := prts_len x
      simp [ih x (by omega) (by omega) (sub_wf hx w)]
      rw [comp_map (o := fun t : S => encS t) (prts x) (by simp) (fun x hx => by simp) (by omega)]) (by
        rw [List.length_nil, Nat.zero_add, fm, List.length_map]; omega)]
    rw [fm]
    have hl : ((sub s).flatMap prts).length + 1 ≤ sizeLine := by omega
    simp only [List.nil_append, ok_bind, newL_t, wpX_ok]
    rw [ps]
    have fr2 := frl [] ((sub s).flatMap prts ++ [s])
    rw [List.map_append] at fr2
    simp only [List.length_map, List.length_singleton, hl, if_true, wpX_ok, List.map_append, List.map_cons, List.map_nil] at fr2 ⊢
    simp [fr2]
end
end L2.Sy

/-! K77A: the defs of the program as terms of the language, and the look at the text. Printed by gen.py, own work. -/
namespace L2.K77
open PySem PySem.Spec PyProof.Rows L2.Iv
def topS (i : Nat) : Stmt := PySem.Challenge.pw_scatterrows_k77_whole_sayings_known.main.body.getD i (.Pass ⟨0, 0, 0, 0⟩)
def f_is_integer : Fn where
  ps := ["value"]
  N := ["value"]
  body := (.cons (.ret (.ands (.cons (.isi (.v 0) "int") (.cons (.nt (.isi (.v 0) "bool")) .nil)))) <|
  .nil)
  mt := false
def f_is_between : Fn where
  ps := ["value", "low", "high"]
  N := ["value", "low", "high"]
  body := (.cons (.ret (.ands (.cons (.call "is_integer" (.cons (.v 0) .nil)) (.cons (.chn .le .le (.v 1) (.v 0) (.v 2)) .nil)))) <|
  .nil)
  mt := false
def f_check_letters : Fn where
  ps := ["k"]
  N := ["k"]
  body := (.cons (.iff (.nt (.call "is_between" (.cons (.v 0) (.cons (.c (.int 1)) (.cons (.g "MOST_LETTERS") .nil))))) (.cons (.rs "InvalidNumber" (.v 0)) <|
    .nil) (.nil)) <|
  .nil)
  mt := false
def f_is_set_name : Fn where
  ps := ["told"]
  N := ["told"]
  body := (.cons (.ret (.call "is_between" (.cons (.v 0) (.cons (.c (.int 0)) (.cons (.bin .sub true (.g "MOST_SETS") (.c (.int 1))) .nil))))) <|
  .nil)
  mt := false
def f_are_names : Fn where
  ps := ["k", "word", "rest"]
  N := ["k", "word", "rest"]
  body := (.cons (.iff (.cmp .isin (.v 1) (.g "OF_ONE_SET")) (.cons (.ret (.ands (.cons (.cmp .eq (.bi .len true (.cons (.v 2) .nil)) (.c (.int 1))) (.cons (.call "is_set_name" (.cons (.ix (.v 2) (.c (.int 0))) .nil)) .nil)))) <|
    .nil) (.nil)) <|
  .cons (.iff (.ors (.cons (.cmp .ne (.bi .len true (.cons (.v 2) .nil)) (.c (.int 2))) (.cons (.nt (.call "is_set_name" (.cons (.ix (.v 2) (.c (.int 0))) .nil))) .nil))) (.cons (.ret (.c (.bl false))) <|
    .nil) (.nil)) <|
  .cons (.iff (.cmp .eq (.v 1) (.c (.str "has"))) (.cons (.ret (.call "is_between" (.cons (.ix (.v 2) (.c (.int 1))) (.cons (.c (.int 0)) (.cons (.bin .sub true (.v 0) (.c (.int 1))) .nil))))) <|
    .nil) (.nil)) <|
  .cons (.ret (.ands (.cons (.cmp .isin (.v 1) (.g "OF_TWO_SETS")) (.cons (.call "is_set_name" (.cons (.ix (.v 2) (.c (.int 1))) .nil)) .nil)))) <|
  .nil)
  mt := false
def f_must_be : Fn where
  ps := ["k", "told"]
  N := ["k", "told", "word", "rest"]
  body := (.cons (.iff (.ors (.cons (.nt (.isi (.v 1) "tuple")) (.cons (.cmp .eq (.bi .len true (.cons (.v 1) .nil)) (.c (.int 0))) (.cons (.nt (.isi (.ix (.v 1) (.c (.int 0))) "str")) .nil)))) (.cons (.ret (.c .non)) <|
    .nil) (.nil)) <|
  .cons (.asg (.p (.t2 (.n 2) (.n 3))) (.tup (.cons (.ix (.v 1) (.c (.int 0))) (.cons (.slF true (.v 1) (.c (.int 1))) .nil)))) <|
  .cons (.iff (.cmp .eq (.v 2) (.c (.str "not"))) (.cons (.ret (.ite (.cmp .eq (.bi .len true (.cons (.v 3) .nil)) (.c (.int 1))) (.v 3) (.c .non))) <|
    .nil) (.nil)) <|
  .cons (.iff (.cmp .isin (.v 2) (.g "OF_TWO_SAYINGS")) (.cons (.ret (.ite (.cmp .eq (.bi .len true (.cons (.v 3) .nil)) (.c (.int 2))) (.v 3) (.c .non))) <|
    .nil) (.nil)) <|
  .cons (.iff (.cmp .isin (.v 2) (.g "OF_A_SET")) (.cons (.ret (.ite (.ands (.cons (.cmp .eq (.bi .len true (.cons (.v 3) .nil)) (.c (.int 2))) (.cons (.call "is_set_name" (.cons (.ix (.v 3) (.c (.int 0))) .nil)) .nil))) (.slF true (.v 3) (.c (.int 1))) (.c .non))) <|
    .nil) (.nil)) <|
  .cons (.ret (.ite (.call "are_names" (.cons (.v 0) (.cons (.v 2) (.cons (.v 3) .nil)))) (.tup .nil) (.c .non))) <|
  .nil)
  mt := false
def f_is_saying_of : Fn where
  ps := ["k", "told"]
  N := ["k", "told", "waiting", "inner"]
  body := (.cons (.asg (.p (.n 2)) (.lst false (.cons (.v 1) .nil))) <|
  .cons (.wh (.cmp .gt (.bi .len true (.cons (.v 2) .nil)) (.c (.int 0))) (.cons (.asg (.p (.n 3)) (.call "must_be" (.cons (.v 0) (.cons (.me .pop 2 .nil) .nil)))) <|
    .cons (.iff (.cmp .is (.v 3) (.c .non)) (.cons (.ret (.c (.bl false))) <|
      .nil) (.nil)) <|
    .cons (.expr (.me .extend 2 (.cons (.v 3) .nil))) <|
    .nil)) <|
  .cons (.ret (.c (.bl true))) <|
  .nil)
  mt := false
def f_check_saying : Fn where
  ps := ["k", "saying"]
  N := ["k", "saying"]
  body := (.cons (.iff (.nt (.call "is_saying_of" (.cons (.v 0) (.cons (.v 1) .nil)))) (.cons (.rs "InvalidSaying" (.v 1)) <|
    .nil) (.nil)) <|
  .nil)
  mt := false
def f_inner_parts : Fn where
  ps := ["saying"]
  N := ["saying"]
  body := (.cons (.iff (.ors (.cons (.cmp .eq (.ix (.v 0) (.c (.int 0))) (.c (.str "not"))) (.cons (.cmp .isin (.ix (.v 0) (.c (.int 0))) (.g "OF_TWO_SAYINGS")) .nil))) (.cons (.ret (.slF true (.v 0) (.c (.int 1)))) <|
    .nil) (.nil)) <|
  .cons (.ret (.ite (.cmp .isin (.ix (.v 0) (.c (.int 0))) (.g "OF_A_SET")) (.slF true (.v 0) (.c (.int 2))) (.tup .nil))) <|
  .nil)
  mt := false
def f_is_atom : Fn where
  ps := ["saying"]
  N := ["saying"]
  body := (.cons (.ret (.cmp .eq (.bi .len true (.cons (.call "inner_parts" (.cons (.v 0) .nil)) .nil)) (.c (.int 0)))) <|
  .nil)
  mt := false
def f_free_of : Fn where
  ps := ["saying"]
  N := ["saying", "named", "part", "name"]
  body := (.cons (.iff (.call "is_atom" (.cons (.v 0) .nil)) (.cons (.asg (.p (.n 1)) (.ite (.cmp .eq (.ix (.v 0) (.c (.int 0))) (.c (.str "has"))) (.slA true (.v 0) (.c (.int 1)) (.c (.int 2))) (.slF true (.v 0) (.c (.int 1))))) <|
    .nil) (.cons (.asg (.p (.n 1)) (.lc2 true [2, 3] (.n 2) (.val (.call "inner_parts" (.cons (.v 0) .nil))) .nil [3] (.n 3) (.val (.call "free_of" (.cons (.v 2) .nil))) .nil (.v 3))) <|
    .nil)) <|
  .cons (.iff (.cmp .isin (.ix (.v 0) (.c (.int 0))) (.g "OF_A_SET")) (.cons (.asg (.p (.n 1)) (.lc true [3] (.n 3) (.val (.v 1)) (.cons (.cmp .ne (.v 3) (.ix (.v 0) (.c (.int 1)))) .nil) (.v 3))) <|
    .nil) (.nil)) <|
  .cons (.ret (.bi .tuple true (.cons (.srt true [3] (.n 3) (.val (.v 1)) (.v 3)) .nil))) <|
  .nil)
  mt := false
def f_parts_of : Fn where
  ps := ["saying"]
  N := ["saying", "inner", "part"]
  body := (.cons (.ret (.bin .add true (.lc2 true [1, 2] (.n 1) (.val (.call "inner_parts" (.cons (.v 0) .nil))) .nil [2] (.n 2) (.val (.call "parts_of" (.cons (.v 1) .nil))) .nil (.v 2)) (.lst true (.cons (.v 0) .nil)))) <|
  .nil)
  mt := false
def f_is_saying : Fn where
  ps := ["k", "told"]
  N := ["k", "told"]
  body := (.cons (.expr (.call "check_letters" (.cons (.v 0) .nil))) <|
  .cons (.ret (.call "is_saying_of" (.cons (.v 0) (.cons (.v 1) .nil)))) <|
  .nil)
  mt := false
def f_free_sets : Fn where
  ps := ["k", "saying"]
  N := ["k", "saying"]
  body := (.cons (.expr (.call "check_letters" (.cons (.v 0) .nil))) <|
  .cons (.expr (.call "check_saying" (.cons (.v 0) (.cons (.v 1) .nil)))) <|
  .cons (.ret (.call "free_of" (.cons (.v 1) .nil))) <|
  .nil)
  mt := false
def f_parts : Fn where
  ps := ["k", "saying"]
  N := ["k", "saying"]
  body := (.cons (.expr (.call "check_letters" (.cons (.v 0) .nil))) <|
  .cons (.expr (.call "check_saying" (.cons (.v 0) (.cons (.v 1) .nil)))) <|
  .cons (.ret (.bi .tuple true (.cons (.call "parts_of" (.cons (.v 1) .nil)) .nil))) <|
  .nil)
  mt := false
def f__law_mixed : Fn where
  ps := ["number", "turn"]
  N := ["number", "turn", "one", "two"]
  body := (.cons (.asg (.p (.n 2)) (.bin .mod true (.bi .int true (.cons (.bin .add true (.bin .add true (.bin .add true (.bin .mul true (.v 0) (.c (.int 48271))) (.bin .mul true (.bin .mul true (.v 1) (.v 1)) (.c (.int 69621)))) (.bin .mul true (.v 1) (.c (.int 7919)))) (.c (.int 12345))) .nil)) (.c (.int 2147483629)))) <|
  .cons (.asg (.p (.n 3)) (.bin .mod true (.bi .int true (.cons (.bin .add true (.bin .add true (.bin .add true (.bin .mul true (.v 2) (.v 2)) (.bin .mul true (.c (.int 40692)) (.v 2))) (.bin .mul true (.v 1) (.c (.int 104729)))) (.c (.int 1))) .nil)) (.c (.int 2147483587)))) <|
  .cons (.ret (.bin .mod true (.bi .int true (.cons (.bin .add true (.bin .mul true (.v 3) (.c (.int 16807))) (.v 2)) .nil)) (.c (.int 1000000007)))) <|
  .nil)
  mt := false
def f__law_source : Fn where
  ps := ["script"]
  N := ["script"]
  body := (.cons (.ret (.lst false (.cons (.bi .list true (.cons (.v 0) .nil)) (.cons (.c (.int 0)) (.cons (.c (.int 0)) (.cons (.c (.int 0)) (.cons (.c (.int 0)) .nil))))))) <|
  .nil)
  mt := true
def f__law_draw : Fn where
  ps := ["source", "many"]
  N := ["source", "many", "cell", "found"]
  body := (.cons (.iff (.ands (.cons (.cmp .eq (.ix (.v 0) (.c (.int 2))) (.c (.int 0))) (.cons (.cmp .lt (.ix (.v 0) (.c (.int 1))) (.bi .len true (.cons (.ix (.v 0) (.c (.int 0))) .nil))) .nil))) (.cons (.asg (.p (.n 2)) (.ix (.ix (.v 0) (.c (.int 0))) (.ix (.v 0) (.c (.int 1))))) <|
    .cons (.asg (.sub (.v 0) (.c (.int 1))) (.bin .add true (.ix (.v 0) (.c (.int 1))) (.c (.int 1)))) <|
    .cons (.asg (.sub (.v 0) (.c (.int 4))) (.bin .mod true (.bi .int true (.cons (.bin .add true (.bin .mul true (.ix (.v 0) (.c (.int 4))) (.c (.int 31))) (.v 2)) .nil)) (.c (.int 1000000009)))) <|
    .cons (.iff (.cmp .ge (.v 2) (.bin .pow true (.c (.int 10)) (.c (.int 18)))) (.cons (.asg (.sub (.v 0) (.c (.int 2))) (.v 2)) <|
      .nil) (.nil)) <|
    .nil) (.nil)) <|
  .cons (.asg (.sub (.v 0) (.c (.int 3))) (.bin .add true (.ix (.v 0) (.c (.int 3))) (.c (.int 1)))) <|
  .cons (.iff (.cmp .gt (.ix (.v 0) (.c (.int 2))) (.c (.int 0))) (.cons (.asg (.p (.n 3)) (.bin .mod true (.bi .int true (.cons (.ix (.v 0) (.c (.int 2))) .nil)) (.v 1))) <|
    .cons (.asg (.sub (.v 0) (.c (.int 2))) (.bin .fdiv true (.ix (.v 0) (.c (.int 2))) (.v 1))) <|
    .cons (.ret (.v 3)) <|
    .nil) (.nil)) <|
  .cons (.ret (.bin .mod true (.bi .int true (.cons (.call "_law_mixed" (.cons (.ix (.v 0) (.c (.int 4))) (.cons (.ix (.v 0) (.c (.int 3))) .nil))) .nil)) (.v 1))) <|
  .nil)
  mt := false
def f__law_atom : Fn where
  ps := ["source", "k"]
  N := ["source", "k", "word", "first"]
  body := (.cons (.asg (.p (.n 2)) (.ix (.lst true (.cons (.c (.str "empty")) (.cons (.c (.str "one")) (.cons (.c (.str "in")) (.cons (.c (.str "has")) (.cons (.c (.str "before")) (.cons (.c (.str "next")) .nil))))))) (.call "_law_draw" (.cons (.v 0) (.cons (.c (.int 6)) .nil))))) <|
  .cons (.asg (.p (.n 3)) (.call "_law_draw" (.cons (.v 0) (.cons (.c (.int 3)) .nil)))) <|
  .cons (.iff (.cmp .isin (.v 2) (.tup (.cons (.c (.str "empty")) (.cons (.c (.str "one")) .nil)))) (.cons (.ret (.tup (.cons (.v 2) (.cons (.v 3) .nil)))) <|
    .nil) (.nil)) <|
  .cons (.ret (.tup (.cons (.v 2) (.cons (.v 3) (.cons (.call "_law_draw" (.cons (.v 0) (.cons (.ite (.cmp .eq (.v 2) (.c (.str "has"))) (.v 1) (.c (.int 3))) .nil))) .nil))))) <|
  .nil)
  mt := false
def f__law_saying : Fn where
  ps := ["source", "k", "room", "deep", "places", "sets"]
  N := ["source", "k", "room", "deep", "places", "sets", "way", "first", "one", "other", "word", "name", "left"]
  body := (.cons (.asg (.p (.n 6)) (.call "_law_draw" (.cons (.v 0) (.cons (.c (.int 9)) .nil)))) <|
  .cons (.iff (.ors (.cons (.cmp .lt (.v 2) (.c (.int 2))) (.cons (.cmp .eq (.v 3) (.c (.int 0))) (.cons (.cmp .eq (.v 6) (.c (.int 0))) .nil)))) (.cons (.ret (.call "_law_atom" (.cons (.v 0) (.cons (.v 1) .nil)))) <|
    .nil) (.nil)) <|
  .cons (.iff (.ands (.cons (.cmp .gt (.v 6) (.c (.int 6))) (.cons (.cmp .eq (.v 5) (.c (.int 0))) .nil))) (.cons (.asg (.p (.n 6)) (.bin .sub true (.v 6) (.c (.int 2)))) <|
    .nil) (.nil)) <|
  .cons (.iff (.ors (.cons (.ands (.cons (.cmp .gt (.v 6) (.c (.int 4))) (.cons (.cmp .eq (.v 4) (.c (.int 0))) .nil))) (.cons (.cmp .eq (.v 6) (.c (.int 1))) .nil))) (.cons (.ret (.tup (.cons (.c (.str "not")) (.cons (.call "_law_saying" (.cons (.v 0) (.cons (.v 1) (.cons (.bin .sub true (.v 2) (.c (.int 1))) (.cons (.bin .sub true (.v 3) (.c (.int 1))) (.cons (.v 4) (.cons (.v 5) .nil))))))) .nil)))) <|
    .nil) (.nil)) <|
  .cons (.iff (.cmp .gt (.v 6) (.c (.int 4))) (.cons (.asg (.p (.n 10)) (.ix (.lst true (.cons (.c (.str "someone")) (.cons (.c (.str "each")) (.cons (.c (.str "some")) (.cons (.c (.str "every")) .nil))))) (.bin .sub true (.v 6) (.c (.int 5))))) <|
    .cons (.asg (.p (.n 11)) (.call "_law_draw" (.cons (.v 0) (.cons (.c (.int 3)) .nil)))) <|
    .cons (.asg (.p (.n 12)) (.ite (.cmp .gt (.v 6) (.c (.int 6))) (.bin .sub true (.v 5) (.c (.int 1))) (.v 5))) <|
    .cons (.ret (.tup (.cons (.v 10) (.cons (.v 11) (.cons (.call "_law_saying" (.cons (.v 0) (.cons (.v 1) (.cons (.bin .sub true (.v 2) (.c (.int 1))) (.cons (.bin .sub true (.v 3) (.c (.int 1))) (.cons (.bin .sub true (.v 4) (.c (.int 1))) (.cons (.v 12) .nil))))))) .nil))))) <|
    .nil) (.nil)) <|
  .cons (.iff (.cmp .lt (.v 2) (.c (.int 3))) (.cons (.ret (.call "_law_atom" (.cons (.v 0) (.cons (.v 1) .nil)))) <|
    .nil) (.nil)) <|
  .cons (.asg (.p (.n 7)) (.bin .add true (.c (.int 1)) (.call "_law_draw" (.cons (.v 0) (.cons (.bin .sub true (.v 2) (.c (.int 2))) .nil))))) <|
  .cons (.asg (.p (.n 8)) (.call "_law_saying" (.cons (.v 0) (.cons (.v 1) (.cons (.v 7) (.cons (.bin .sub true (.v 3) (.c (.int 1))) (.cons (.v 4) (.cons (.v 5) .nil)))))))) <|
  .cons (.asg (.p (.n 9)) (.call "_law_saying" (.cons (.v 0) (.cons (.v 1) (.cons (.bin .sub true (.bin .sub true (.v 2) (.c (.int 1))) (.v 7)) (.cons (.bin .sub true (.v 3) (.c (.int 1))) (.cons (.v 4) (.cons (.v 5) .nil)))))))) <|
  .cons (.ret (.tup (.cons (.ite (.cmp .eq (.v 6) (.c (.int 3))) (.c (.str "either")) (.c (.str "both"))) (.cons (.v 8) (.cons (.v 9) .nil))))) <|
  .nil)
  mt := false
def f__law_named : Fn where
  ps := ["saying"]
  N := ["saying", "name"]
  body := (.cons (.iff (.cmp .isin (.ix (.v 0) (.c (.int 0))) (.tup (.cons (.c (.str "empty")) (.cons (.c (.str "one")) (.cons (.c (.str "has")) .nil))))) (.cons (.ret (.lst true (.cons (.ix (.v 0) (.c (.int 1))) .nil))) <|
    .nil) (.nil)) <|
  .cons (.iff (.cmp .isin (.ix (.v 0) (.c (.int 0))) (.tup (.cons (.c (.str "in")) (.cons (.c (.str "before")) (.cons (.c (.str "next")) .nil))))) (.cons (.ret (.lst true (.cons (.ix (.v 0) (.c (.int 1))) (.cons (.ix (.v 0) (.c (.int 2))) .nil)))) <|
    .nil) (.nil)) <|
  .cons (.iff (.cmp .eq (.ix (.v 0) (.c (.int 0))) (.c (.str "not"))) (.cons (.ret (.call "_law_named" (.cons (.ix (.v 0) (.c (.int 1))) .nil))) <|
    .nil) (.nil)) <|
  .cons (.iff (.cmp .isin (.ix (.v 0) (.c (.int 0))) (.tup (.cons (.c (.str "both")) (.cons (.c (.str "either")) .nil)))) (.cons (.ret (.bin .add true (.call "_law_named" (.cons (.ix (.v 0) (.c (.int 1))) .nil)) (.call "_law_named" (.cons (.ix (.v 0) (.c (.int 2))) .nil)))) <|
    .nil) (.nil)) <|
  .cons (.ret (.lc true [1] (.n 1) (.val (.call "_law_named" (.cons (.ix (.v 0) (.c (.int 2))) .nil))) (.cons (.cmp .ne (.v 1) (.ix (.v 0) (.c (.int 1)))) .nil) (.v 1))) <|
  .nil)
  mt := false
def f__law_free : Fn where
  ps := ["saying"]
  N := ["saying", "named", "name"]
  body := (.cons (.asg (.p (.n 1)) (.call "_law_named" (.cons (.v 0) .nil))) <|
  .cons (.ret (.bi .tuple true (.cons (.lc true [2] (.n 2) (.rng1 (.c (.int 3))) (.cons (.cmp .isin (.v 2) (.v 1)) .nil) (.v 2)) .nil))) <|
  .nil)
  mt := false
def f__law_bad_number : Fn where
  ps := ["source"]
  N := ["source"]
  body := (.cons (.ret (.ix (.lst true (.cons (.c (.int 0)) (.cons (.c (.int 5)) (.cons (.neg (.c (.int 1))) (.cons (.c (.bl true)) (.cons (.c (.bl false)) (.cons (.c .non) (.cons (.c (.str "2")) (.cons (.bin .pow true (.c (.int 10)) (.c (.int 29))) (.cons (.tup (.cons (.c (.int 1)) .nil)) (.cons (.lst true (.cons (.c (.int 2)) .nil)) .nil))))))))))) (.call "_law_draw" (.cons (.v 0) (.cons (.c (.int 10)) .nil))))) <|
  .nil)
  mt := false
def f__law_odd : Fn where
  ps := ["source", "k"]
  N := ["source", "k"]
  body := (.cons (.ret (.ix (.lst true (.cons (.c (.int 3)) (.cons (.neg (.c (.int 1))) (.cons (.v 1) (.cons (.c (.int 4)) (.cons (.c (.bl true)) (.cons (.c (.bl false)) (.cons (.c .non) (.cons (.c (.str "0")) (.cons (.c (.str "empty")) (.cons (.bin .pow true (.c (.int 10)) (.c (.int 29))) (.cons (.tup .nil) (.cons (.tup (.cons (.c (.int 0)) .nil)) (.cons (.lst true (.cons (.c (.int 0)) .nil)) (.cons (.c (.int 0)) (.cons (.c (.int 1)) (.cons (.c (.int 2)) .nil))))))))))))))))) (.call "_law_draw" (.cons (.v 0) (.cons (.c (.int 16)) .nil))))) <|
  .nil)
  mt := false
def f__law_word : Fn where
  ps := ["source"]
  N := ["source", "words"]
  body := (.cons (.asg (.p (.n 1)) (.lst true (.cons (.c (.str "empty")) (.cons (.c (.str "one")) (.cons (.c (.str "in")) (.cons (.c (.str "has")) (.cons (.c (.str "before")) (.cons (.c (.str "next")) (.cons (.c (.str "not")) (.cons (.c (.str "both")) (.cons (.c (.str "either")) (.cons (.c (.str "someone")) (.cons (.c (.str "each")) (.cons (.c (.str "some")) (.cons (.c (.str "every")) .nil))))))))))))))) <|
  .cons (.ret (.ix (.bin .add true (.v 1) (.lst true (.cons (.c (.str "Not")) (.cons (.c (.str "")) (.cons (.c (.str "all")) (.cons (.c (.str "some ")) (.cons (.c (.str "none")) (.cons (.c (.str "true")) .nil)))))))) (.call "_law_draw" (.cons (.v 0) (.cons (.c (.int 19)) .nil))))) <|
  .nil)
  mt := false
def f__law_spoilt : Fn where
  ps := ["source", "k", "saying"]
  N := ["source", "k", "saying", "inner", "way", "at"]
  body := (.cons (.asg (.p (.n 3)) (.lc true [5] (.n 5) (.rng2 (.c (.int 1)) (.bi .len true (.cons (.v 2) .nil))) (.cons (.isi (.ix (.v 2) (.v 5)) "tuple") .nil) (.v 5))) <|
  .cons (.iff (.ands (.cons (.cmp .gt (.bi .len true (.cons (.v 3) .nil)) (.c (.int 0))) (.cons (.cmp .gt (.call "_law_draw" (.cons (.v 0) (.cons (.c (.int 3)) .nil))) (.c (.int 0))) .nil))) (.cons (.asg (.p (.n 5)) (.ix (.v 3) (.call "_law_draw" (.cons (.v 0) (.cons (.bi .len true (.cons (.v 3) .nil)) .nil))))) <|
    .cons (.ret (.bin .add true (.bin .add true (.slT true (.v 2) (.v 5)) (.tup (.cons (.call "_law_spoilt" (.cons (.v 0) (.cons (.v 1) (.cons (.ix (.v 2) (.v 5)) .nil)))) .nil))) (.slF true (.v 2) (.bin .add true (.v 5) (.c (.int 1)))))) <|
    .nil) (.nil)) <|
  .cons (.asg (.p (.n 4)) (.call "_law_draw" (.cons (.v 0) (.cons (.c (.int 8)) .nil)))) <|
  .cons (.iff (.cmp .eq (.v 4) (.c (.int 0))) (.cons (.ret (.bi .list true (.cons (.v 2) .nil))) <|
    .nil) (.nil)) <|
  .cons (.iff (.cmp .eq (.v 4) (.c (.int 1))) (.cons (.ret (.bin .add true (.tup (.cons (.call "_law_word" (.cons (.v 0) .nil)) .nil)) (.slF true (.v 2) (.c (.int 1))))) <|
    .nil) (.nil)) <|
  .cons (.iff (.cmp .eq (.v 4) (.c (.int 2))) (.cons (.ret (.bin .add true (.v 2) (.tup (.cons (.call "_law_odd" (.cons (.v 0) (.cons (.v 1) .nil))) .nil)))) <|
    .nil) (.nil)) <|
  .cons (.iff (.cmp .eq (.v 4) (.c (.int 3))) (.cons (.ret (.slT true (.v 2) (.neg (.c (.int 1))))) <|
    .nil) (.nil)) <|
  .cons (.iff (.cmp .eq (.v 4) (.c (.int 4))) (.cons (.ret (.call "_law_odd" (.cons (.v 0) (.cons (.v 1) .nil)))) <|
    .nil) (.nil)) <|
  .cons (.iff (.cmp .eq (.v 4) (.c (.int 5))) (.cons (.ret (.bin .add true (.slT true (.v 2) (.c (.int 1))) (.slN true (.v 2)))) <|
    .nil) (.nil)) <|
  .cons (.asg (.p (.n 5)) (.bin .add true (.c (.int 1)) (.call "_law_draw" (.cons (.v 0) (.cons (.bin .sub true (.bi .len true (.cons (.v 2) .nil)) (.c (.int 1))) .nil))))) <|
  .cons (.ret (.bin .add true (.bin .add true (.slT true (.v 2) (.v 5)) (.tup (.cons (.call "_law_odd" (.cons (.v 0) (.cons (.v 1) .nil))) .nil))) (.slF true (.v 2) (.bin .add true (.v 5) (.c (.int 1)))))) <|
  .nil)
  mt := false
def f__law_below : Fn where
  ps := ["told", "many"]
  N := ["told", "many"]
  body := (.cons (.ret (.ands (.cons (.isi (.v 0) "int") (.cons (.nt (.isi (.v 0) "bool")) (.cons (.cmp .le (.c (.int 0)) (.v 0)) (.cons (.cmp .lt (.v 0) (.v 1)) .nil)))))) <|
  .nil)
  mt := false
def f__law_is_right : Fn where
  ps := ["k", "told"]
  N := ["k", "told", "word"]
  body := (.cons (.iff (.ors (.cons (.nt (.isi (.v 1) "tuple")) (.cons (.cmp .lt (.bi .len true (.cons (.v 1) .nil)) (.c (.int 2))) (.cons (.nt (.isi (.ix (.v 1) (.c (.int 0))) "str")) .nil)))) (.cons (.ret (.c (.bl false))) <|
    .nil) (.nil)) <|
  .cons (.asg (.p (.n 2)) (.ix (.v 1) (.c (.int 0)))) <|
  .cons (.iff (.cmp .eq (.v 2) (.c (.str "not"))) (.cons (.ret (.ands (.cons (.cmp .eq (.bi .len true (.cons (.v 1) .nil)) (.c (.int 2))) (.cons (.call "_law_is_right" (.cons (.v 0) (.cons (.ix (.v 1) (.c (.int 1))) .nil))) .nil)))) <|
    .nil) (.nil)) <|
  .cons (.iff (.cmp .isin (.v 2) (.tup (.cons (.c (.str "both")) (.cons (.c (.str "either")) .nil)))) (.cons (.ret (.ands (.cons (.cmp .eq (.bi .len true (.cons (.v 1) .nil)) (.c (.int 3))) (.cons (.call "_law_is_right" (.cons (.v 0) (.cons (.ix (.v 1) (.c (.int 1))) .nil))) (.cons (.call "_law_is_right" (.cons (.v 0) (.cons (.ix (.v 1) (.c (.int 2))) .nil))) .nil))))) <|
    .nil) (.nil)) <|
  .cons (.iff (.nt (.call "_law_below" (.cons (.ix (.v 1) (.c (.int 1))) (.cons (.c (.int 3)) .nil)))) (.cons (.ret (.c (.bl false))) <|
    .nil) (.nil)) <|
  .cons (.iff (.cmp .isin (.v 2) (.tup (.cons (.c (.str "some")) (.cons (.c (.str "every")) (.cons (.c (.str "someone")) (.cons (.c (.str "each")) .nil)))))) (.cons (.ret (.ands (.cons (.cmp .eq (.bi .len true (.cons (.v 1) .nil)) (.c (.int 3))) (.cons (.call "_law_is_right" (.cons (.v 0) (.cons (.ix (.v 1) (.c (.int 2))) .nil))) .nil)))) <|
    .nil) (.nil)) <|
  .cons (.iff (.cmp .isin (.v 2) (.tup (.cons (.c (.str "empty")) (.cons (.c (.str "one")) .nil)))) (.cons (.ret (.cmp .eq (.bi .len true (.cons (.v 1) .nil)) (.c (.int 2)))) <|
    .nil) (.nil)) <|
  .cons (.iff (.cmp .ne (.bi .len true (.cons (.v 1) .nil)) (.c (.int 3))) (.cons (.ret (.c (.bl false))) <|
    .nil) (.nil)) <|
  .cons (.iff (.cmp .eq (.v 2) (.c (.str "has"))) (.cons (.ret (.call "_law_below" (.cons (.ix (.v 1) (.c (.int 2))) (.cons (.v 0) .nil)))) <|
    .nil) (.nil)) <|
  .cons (.ret (.ands (.cons (.cmp .isin (.v 2) (.tup (.cons (.c (.str "in")) (.cons (.c (.str "before")) (.cons (.c (.str "next")) .nil))))) (.cons (.call "_law_below" (.cons (.ix (.v 1) (.c (.int 2))) (.cons (.c (.int 3)) .nil))) .nil)))) <|
  .nil)
  mt := false
def f__law_parts : Fn where
  ps := ["saying"]
  N := ["saying", "found", "inner"]
  body := (.cons (.asg (.p (.n 1)) (.lst true .nil)) <|
  .cons (.fr (.n 2) (.val (.slF true (.v 0) (.c (.int 1)))) (.cons (.iff (.isi (.v 2) "tuple") (.cons (.asg (.p (.n 1)) (.bin .add true (.v 1) (.call "_law_parts" (.cons (.v 2) .nil)))) <|
      .nil) (.nil)) <|
    .nil)) <|
  .cons (.ret (.bin .add true (.v 1) (.lst true (.cons (.v 0) .nil)))) <|
  .nil)
  mt := false
def f__law_is_told : Fn where
  ps := ["k", "thing"]
  N := ["k", "thing", "found", "e"]
  body := (.cons (.tr (.cons (.asg (.p (.n 2)) (.tup (.cons (.c (.str "told")) (.cons (.bi .repr true (.cons (.callk "is_saying" .nil (.cons (.v 1) (.cons (.v 0) .nil)) [1, 0]) .nil)) .nil)))) <|
    .nil) (.cons "InvalidNumber" (some 3) (.cons (.asg (.p (.n 2)) (.tup (.cons (.c (.str "number")) (.cons (.bi .repr true (.cons (.fld 3) .nil)) .nil)))) <|
    .nil) .nil)) <|
  .cons (.ret (.v 2)) <|
  .nil)
  mt := false
def f__law_free_told : Fn where
  ps := ["k", "thing"]
  N := ["k", "thing", "found", "e"]
  body := (.cons (.tr (.cons (.asg (.p (.n 2)) (.tup (.cons (.c (.str "told")) (.cons (.bi .repr true (.cons (.callk "free_sets" .nil (.cons (.v 1) (.cons (.v 0) .nil)) [1, 0]) .nil)) .nil)))) <|
    .nil) (.cons "InvalidNumber" (some 3) (.cons (.asg (.p (.n 2)) (.tup (.cons (.c (.str "number")) (.cons (.bi .repr true (.cons (.fld 3) .nil)) .nil)))) <|
    .nil) (.cons "InvalidSaying" (some 3) (.cons (.asg (.p (.n 2)) (.tup (.cons (.c (.str "saying")) (.cons (.bi .repr true (.cons (.fld 3) .nil)) .nil)))) <|
    .nil) .nil))) <|
  .cons (.ret (.v 2)) <|
  .nil)
  mt := false
def f__law_parts_told : Fn where
  ps := ["k", "thing"]
  N := ["k", "thing", "found", "e"]
  body := (.cons (.tr (.cons (.asg (.p (.n 2)) (.tup (.cons (.c (.str "told")) (.cons (.bi .repr true (.cons (.call "parts" (.cons (.v 0) (.cons (.v 1) .nil))) .nil)) .nil)))) <|
    .cons (.iff (.cmp .ne (.bi .repr true (.cons (.callk "parts" .nil (.cons (.v 1) (.cons (.v 0) .nil)) [1, 0]) .nil)) (.ix (.v 2) (.c (.int 1)))) (.cons (.asg (.p (.n 2)) (.tup (.cons (.c (.str "odd")) (.cons (.ix (.v 2) (.c (.int 1))) .nil)))) <|
      .nil) (.nil)) <|
    .nil) (.cons "InvalidNumber" (some 3) (.cons (.asg (.p (.n 2)) (.tup (.cons (.c (.str "number")) (.cons (.bi .repr true (.cons (.fld 3) .nil)) .nil)))) <|
    .nil) (.cons "InvalidSaying" (some 3) (.cons (.asg (.p (.n 2)) (.tup (.cons (.c (.str "saying")) (.cons (.bi .repr true (.cons (.fld 3) .nil)) .nil)))) <|
    .nil) .nil))) <|
  .cons (.ret (.v 2)) <|
  .nil)
  mt := false
def f_law : Fn where
  ps := ["script"]
  N := ["script", "source", "is_odd", "is_spoilt", "k", "thing", "is_right", "given", "due"]
  body := (.cons (.asg (.p (.n 1)) (.call "_law_source" (.cons (.v 0) .nil))) <|
  .cons (.asg (.p (.n 2)) (.cmp .eq (.call "_law_draw" (.cons (.v 1) (.cons (.c (.int 5)) .nil))) (.c (.int 0)))) <|
  .cons (.asg (.p (.n 3)) (.cmp .gt (.call "_law_draw" (.cons (.v 1) (.cons (.c (.int 4)) .nil))) (.c (.int 0)))) <|
  .cons (.asg (.p (.n 4)) (.bin .add true (.c (.int 1)) (.call "_law_draw" (.cons (.v 1) (.cons (.c (.int 4)) .nil))))) <|
  .cons (.asg (.p (.n 5)) (.call "_law_saying" (.cons (.v 1) (.cons (.v 4) (.cons (.bin .add true (.c (.int 1)) (.call "_law_draw" (.cons (.v 1) (.cons (.c (.int 12)) .nil)))) (.cons (.c (.int 6)) (.cons (.c (.int 3)) (.cons (.c (.int 1)) .nil)))))))) <|
  .cons (.iff (.v 3) (.cons (.asg (.p (.n 5)) (.call "_law_spoilt" (.cons (.v 1) (.cons (.v 4) (.cons (.v 5) .nil))))) <|
    .nil) (.nil)) <|
  .cons (.asg (.p (.n 6)) (.call "_law_is_right" (.cons (.v 4) (.cons (.v 5) .nil)))) <|
  .cons (.asg (.p (.n 7)) (.ite (.v 2) (.call "_law_bad_number" (.cons (.v 1) .nil)) (.v 4))) <|
  .cons (.asg (.p (.n 8)) (.lst false (.cons (.tup (.cons (.c (.str "told")) (.cons (.bi .repr true (.cons (.v 6) .nil)) .nil))) (.cons (.tup (.cons (.c (.str "saying")) (.cons (.bi .repr true (.cons (.v 5) .nil)) .nil))) (.cons (.tup (.cons (.c (.str "saying")) (.cons (.bi .repr true (.cons (.v 5) .nil)) .nil))) .nil))))) <|
  .cons (.iff (.v 6) (.cons (.asg (.sub (.v 8) (.c (.int 1))) (.tup (.cons (.c (.str "told")) (.cons (.bi .repr true (.cons (.call "_law_free" (.cons (.v 5) .nil)) .nil)) .nil)))) <|
    .cons (.asg (.sub (.v 8) (.c (.int 2))) (.tup (.cons (.c (.str "told")) (.cons (.bi .repr true (.cons (.bi .tuple true (.cons (.call "_law_parts" (.cons (.v 5) .nil)) .nil)) .nil)) .nil)))) <|
    .nil) (.nil)) <|
  .cons (.iff (.v 2) (.cons (.asg (.p (.n 8)) (.bin .mul false (.lst true (.cons (.tup (.cons (.c (.str "number")) (.cons (.bi .repr true (.cons (.v 7) .nil)) .nil))) .nil)) (.c (.int 3)))) <|
    .nil) (.nil)) <|
  .cons (.iff (.ors (.cons (.cmp .ne (.call "_law_free_told" (.cons (.v 7) (.cons (.v 5) .nil))) (.ix (.v 8) (.c (.int 1)))) (.cons (.cmp .ne (.call "_law_is_told" (.cons (.v 7) (.cons (.v 5) .nil))) (.ix (.v 8) (.c (.int 0)))) .nil))) (.cons (.ret (.c (.bl false))) <|
    .nil) (.nil)) <|
  .cons (.iff (.ors (.cons (.cmp .ne (.call "_law_parts_told" (.cons (.v 7) (.cons (.v 5) .nil))) (.ix (.v 8) (.c (.int 2)))) (.cons (.cmp .ne (.call "_law_free_told" (.cons (.v 7) (.cons (.v 5) .nil))) (.ix (.v 8) (.c (.int 1)))) .nil))) (.cons (.ret (.c (.bl false))) <|
    .nil) (.nil)) <|
  .cons (.ret (.cmp .eq (.call "_law_is_told" (.cons (.v 4) (.cons (.v 5) .nil))) (.tup (.cons (.c (.str "told")) (.cons (.bi .repr true (.cons (.v 6) .nil)) .nil))))) <|
  .nil)
  mt := false
def gl_MOST_LETTERS : PV := (.int 4)
def gl_MOST_SETS : PV := (.int 3)
def gl_OF_ONE_SET : PV := (.tup [(.str "empty"), (.str "one")])
def gl_OF_TWO_SETS : PV := (.tup [(.str "in"), (.str "before"), (.str "next")])
def gl_OF_TWO_SAYINGS : PV := (.tup [(.str "both"), (.str "either")])
def gl_OF_A_SET : PV := (.tup [(.str "some"), (.str "every"), (.str "someone"), (.str "each")])
def sg : Sg where
  tb := [(("is_integer" : Str), f_is_integer),
    (("is_between" : Str), f_is_between),
    (("check_letters" : Str), f_check_letters),
    (("is_set_name" : Str), f_is_set_name),
    (("are_names" : Str), f_are_names),
    (("must_be" : Str), f_must_be),
    (("is_saying_of" : Str), f_is_saying_of),
    (("check_saying" : Str), f_check_saying),
    (("inner_parts" : Str), f_inner_parts),
    (("is_atom" : Str), f_is_atom),
    (("free_of" : Str), f_free_of),
    (("parts_of" : Str), f_parts_of),
    (("is_saying" : Str), f_is_saying),
    (("free_sets" : Str), f_free_sets),
    (("parts" : Str), f_parts),
    (("_law_mixed" : Str), f__law_mixed),
    (("_law_source" : Str), f__law_source),
    (("_law_draw" : Str), f__law_draw),
    (("_law_atom" : Str), f__law_atom),
    (("_law_saying" : Str), f__law_saying),
    (("_law_named" : Str), f__law_named),
    (("_law_free" : Str), f__law_free),
    (("_law_bad_number" : Str), f__law_bad_number),
    (("_law_odd" : Str), f__law_odd),
    (("_law_word" : Str), f__law_word),
    (("_law_spoilt" : Str), f__law_spoilt),
    (("_law_below" : Str), f__law_below),
    (("_law_is_right" : Str), f__law_is_right),
    (("_law_parts" : Str), f__law_parts),
    (("_law_is_told" : Str), f__law_is_told),
    (("_law_free_told" : Str), f__law_free_told),
    (("_law_parts_told" : Str), f__law_parts_told),
    (("law" : Str), f_law)]
  gl := [("MOST_LETTERS", gl_MOST_LETTERS), ("MOST_SETS", gl_MOST_SETS), ("OF_ONE_SET", gl_OF_ONE_SET), ("OF_TWO_SETS", gl_OF_TWO_SETS), ("OF_TWO_SAYINGS", gl_OF_TWO_SAYINGS), ("OF_A_SET", gl_OF_A_SET)]
  bs := ["isinstance", "bool", "int", "len", "str", "tuple", "sorted", "list", "range", "repr"]
  kcs := [("is_saying", ["told", "k"], 0, [1, 0]), ("free_sets", ["saying", "k"], 0, [1, 0]), ("parts", ["saying", "k"], 0, [1, 0])]
  ecs := [("RowError", ["RowError", "ValueError"]), ("InvalidNumber", ["InvalidNumber", "RowError", "ValueError"]), ("InvalidSaying", ["InvalidSaying", "RowError", "ValueError"])]
  hot := false
def initS : Stmt := (clsBody (topS 1)).getD 0 (.Pass ⟨0, 0, 0, 0⟩)
theorem look_is_integer : chkSs sg (f_is_integer).N (defScope (topS 5)) (defScope (topS 5)) (f_is_integer).body (defBody (topS 5)) = true := by decide +kernel
theorem scope_is_integer : FnScope (f_is_integer).N (f_is_integer).ps (defScope (topS 5)) := ⟨rfl, rfl, rfl, by decide +kernel, rfl, by decide +kernel, by decide +kernel⟩
theorem at_is_integer : sg.tb.lookup ("is_integer" : Str) = some f_is_integer := rfl
theorem look_is_between : chkSs sg (f_is_between).N (defScope (topS 6)) (defScope (topS 6)) (f_is_between).body (defBody (topS 6)) = true := by decide +kernel
theorem scope_is_between : FnScope (f_is_between).N (f_is_between).ps (defScope (topS 6)) := ⟨rfl, rfl, rfl, by decide +kernel, rfl, by decide +kernel, by decide +kernel⟩
theorem at_is_between : sg.tb.lookup ("is_between" : Str) = some f_is_between := rfl
theorem look_check_letters : chkSs sg (f_check_letters).N (defScope (topS 9)) (defScope (topS 9)) (f_check_letters).body (defBody (topS 9)) = true := by decide +kernel
theorem scope_check_letters : FnScope (f_check_letters).N (f_check_letters).ps (defScope (topS 9)) := ⟨rfl, rfl, rfl, by decide +kernel, rfl, by decide +kernel, by decide +kernel⟩
theorem at_check_letters : sg.tb.lookup ("check_letters" : Str) = some f_check_letters := rfl
theorem look_is_set_name : chkSs sg (f_is_set_name).N (defScope (topS 16)) (defScope (topS 16)) (f_is_set_name).body (defBody (topS 16)) = true := by decide +kernel
theorem scope_is_set_name : FnScope (f_is_set_name).N (f_is_set_name).ps (defScope (topS 16)) := ⟨rfl, rfl, rfl, by decide +kernel, rfl, by decide +kernel, by decide +kernel⟩
theorem at_is_set_name : sg.tb.lookup ("is_set_name" : Str) = some f_is_set_name := rfl
theorem look_are_names : chkSs sg (f_are_names).N (defScope (topS 17)) (defScope (topS 17)) (f_are_names).body (defBody (topS 17)) = true := by decide +kernel
theorem scope_are_names : FnScope (f_are_names).N (f_are_names).ps (defScope (topS 17)) := ⟨rfl, rfl, rfl, by decide +kernel, rfl, by decide +kernel, by decide +kernel⟩
theorem at_are_names : sg.tb.lookup ("are_names" : Str) = some f_are_names := rfl
theorem look_must_be : chkSs sg (f_must_be).N (defScope (topS 18)) (defScope (topS 18)) (f_must_be).body (defBody (topS 18)) = true := by decide +kernel
theorem scope_must_be : FnScope (f_must_be).N (f_must_be).ps (defScope (topS 18)) := ⟨rfl, rfl, rfl, by decide +kernel, rfl, by decide +kernel, by decide +kernel⟩
theorem at_must_be : sg.tb.lookup ("must_be" : Str) = some f_must_be := rfl
theorem look_is_saying_of : chkSs sg (f_is_saying_of).N (defScope (topS 19)) (defScope (topS 19)) (f_is_saying_of).body (defBody (topS 19)) = true := by decide +kernel
theorem scope_is_saying_of : FnScope (f_is_saying_of).N (f_is_saying_of).ps (defScope (topS 19)) := ⟨rfl, rfl, rfl, by decide +kernel, rfl, by decide +kernel, by decide +kernel⟩
theorem at_is_saying_of : sg.tb.lookup ("is_saying_of" : Str) = some f_is_saying_of := rfl
theorem look_check_saying : chkSs sg (f_check_saying).N (defScope (topS 20)) (defScope (topS 20)) (f_check_saying).body (defBody (topS 20)) = true := by decide +kernel
theorem scope_check_saying : FnScope (f_check_saying).N (f_check_saying).ps (defScope (topS 20)) := ⟨rfl, rfl, rfl, by decide +kernel, rfl, by decide +kernel, by decide +kernel⟩
theorem at_check_saying : sg.tb.lookup ("check_saying" : Str) = some f_check_saying := rfl
theorem look_inner_parts : chkSs sg (f_inner_parts).N (defScope (topS 21)) (defScope (topS 21)) (f_inner_parts).body (defBody (topS 21)) = true := by decide +kernel
theorem scope_inner_parts : FnScope (f_inner_parts).N (f_inner_parts).ps (defScope (topS 21)) := ⟨rfl, rfl, rfl, by decide +kernel, rfl, by decide +kernel, by decide +kernel⟩
theorem at_inner_parts : sg.tb.lookup ("inner_parts" : Str) = some f_inner_parts := rfl
theorem look_is_atom : chkSs sg (f_is_atom).N (defScope (topS 22)) (defScope (topS 22)) (f_is_atom).body (defBody (topS 22)) = true := by decide +kernel
theorem scope_is_atom : FnScope (f_is_atom).N (f_is_atom).ps (defScope (topS 22)) := ⟨rfl, rfl, rfl, by decide +kernel, rfl, by decide +kernel, by decide +kernel⟩
theorem at_is_atom : sg.tb.lookup ("is_atom" : Str) = some f_is_atom := rfl
theorem look_free_of : chkSs sg (f_free_of).N (defScope (topS 23)) (defScope (topS 23)) (f_free_of).body (defBody (topS 23)) = true := by decide +kernel
theorem scope_free_of : FnScope (f_free_of).N (f_free_of).ps (defScope (topS 23)) := ⟨rfl, rfl, rfl, by decide +kernel, rfl, by decide +kernel, by decide +kernel⟩
theorem at_free_of : sg.tb.lookup ("free_of" : Str) = some f_free_of := rfl
theorem look_parts_of : chkSs sg (f_parts_of).N (defScope (topS 24)) (defScope (topS 24)) (f_parts_of).body (defBody (topS 24)) = true := by decide +kernel
theorem scope_parts_of : FnScope (f_parts_of).N (f_parts_of).ps (defScope (topS 24)) := ⟨rfl, rfl, rfl, by decide +kernel, rfl, by decide +kernel, by decide +kernel⟩
theorem at_parts_of : sg.tb.lookup ("parts_of" : Str) = some f_parts_of := rfl
theorem look_is_saying : chkSs sg (f_is_saying).N (defScope (topS 25)) (defScope (topS 25)) (f_is_saying).body (defBody (topS 25)) = true := by decide +kernel
theorem scope_is_saying : FnScope (f_is_saying).N (f_is_saying).ps (defScope (topS 25)) := ⟨rfl, rfl, rfl, by decide +kernel, rfl, by decide +kernel, by decide +kernel⟩
theorem at_is_saying : sg.tb.lookup ("is_saying" : Str) = some f_is_saying := rfl
theorem look_free_sets : chkSs sg (f_free_sets).N (defScope (topS 26)) (defScope (topS 26)) (f_free_sets).body (defBody (topS 26)) = true := by decide +kernel
theorem scope_free_sets : FnScope (f_free_sets).N (f_free_sets).ps (defScope (topS 26)) := ⟨rfl, rfl, rfl, by decide +kernel, rfl, by decide +kernel, by decide +kernel⟩
theorem at_free_sets : sg.tb.lookup ("free_sets" : Str) = some f_free_sets := rfl
theorem look_parts : chkSs sg (f_parts).N (defScope (topS 27)) (defScope (topS 27)) (f_parts).body (defBody (topS 27)) = true := by decide +kernel
theorem scope_parts : FnScope (f_parts).N (f_parts).ps (defScope (topS 27)) := ⟨rfl, rfl, rfl, by decide +kernel, rfl, by decide +kernel, by decide +kernel⟩
theorem at_parts : sg.tb.lookup ("parts" : Str) = some f_parts := rfl
theorem look__law_mixed : chkSs sg (f__law_mixed).N (defScope (topS 29)) (defScope (topS 29)) (f__law_mixed).body (defBody (topS 29)) = true := by decide +kernel
theorem scope__law_mixed : FnScope (f__law_mixed).N (f__law_mixed).ps (defScope (topS 29)) := ⟨rfl, rfl, rfl, by decide +kernel, rfl, by decide +kernel, by decide +kernel⟩
theorem at__law_mixed : sg.tb.lookup ("_law_mixed" : Str) = some f__law_mixed := rfl
theorem look__law_source : chkSs sg (f__law_source).N (defScope (topS 30)) (defScope (topS 30)) (f__law_source).body (defBody (topS 30)) = true := by decide +kernel
theorem scope__law_source : FnScope (f__law_source).N (f__law_source).ps (defScope (topS 30)) := ⟨rfl, rfl, rfl, by decide +kernel, rfl, by decide +kernel, by decide +kernel⟩
theorem at__law_source : sg.tb.lookup ("_law_source" : Str) = some f__law_source := rfl
theorem look__law_draw : chkSs sg (f__law_draw).N (defScope (topS 31)) (defScope (topS 31)) (f__law_draw).body (defBody (topS 31)) = true := by decide +kernel
theorem scope__law_draw : FnScope (f__law_draw).N (f__law_draw).ps (defScope (topS 31)) := ⟨rfl, rfl, rfl, by decide +kernel, rfl, by decide +kernel, by decide +kernel⟩
theorem at__law_draw : sg.tb.lookup ("_law_draw" : Str) = some f__law_draw := rfl
theorem look__law_atom : chkSs sg (f__law_atom).N (defScope (topS 32)) (defScope (topS 32)) (f__law_atom).body (defBody (topS 32)) = true := by decide +kernel
theorem scope__law_atom : FnScope (f__law_atom).N (f__law_atom).ps (defScope (topS 32)) := ⟨rfl, rfl, rfl, by decide +kernel, rfl, by decide +kernel, by decide +kernel⟩
theorem at__law_atom : sg.tb.lookup ("_law_atom" : Str) = some f__law_atom := rfl
theorem look__law_saying : chkSs sg (f__law_saying).N (defScope (topS 33)) (defScope (topS 33)) (f__law_saying).body (defBody (topS 33)) = true := by decide +kernel
theorem scope__law_saying : FnScope (f__law_saying).N (f__law_saying).ps (defScope (topS 33)) := ⟨rfl, rfl, rfl, by decide +kernel, rfl, by decide +kernel, by decide +kernel⟩
theorem at__law_saying : sg.tb.lookup ("_law_saying" : Str) = some f__law_saying := rfl
theorem look__law_named : chkSs sg (f__law_named).N (defScope (topS 34)) (defScope (topS 34)) (f__law_named).body (defBody (topS 34)) = true := by decide +kernel
theorem scope__law_named : FnScope (f__law_named).N (f__law_named).ps (defScope (topS 34)) := ⟨rfl, rfl, rfl, by decide +kernel, rfl, by decide +kernel, by decide +kernel⟩
theorem at__law_named : sg.tb.lookup ("_law_named" : Str) = some f__law_named := rfl
theorem look__law_free : chkSs sg (f__law_free).N (defScope (topS 35)) (defScope (topS 35)) (f__law_free).body (defBody (topS 35)) = true := by decide +kernel
theorem scope__law_free : FnScope (f__law_free).N (f__law_free).ps (defScope (topS 35)) := ⟨rfl, rfl, rfl, by decide +kernel, rfl, by decide +kernel, by decide +kernel⟩
theorem at__law_free : sg.tb.lookup ("_law_free" : Str) = some f__law_free := rfl
theorem look__law_bad_number : chkSs sg (f__law_bad_number).N (defScope (topS 36)) (defScope (topS 36)) (f__law_bad_number).body (defBody (topS 36)) = true := by decide +kernel
theorem scope__law_bad_number : FnScope (f__law_bad_number).N (f__law_bad_number).ps (defScope (topS 36)) := ⟨rfl, rfl, rfl, by decide +kernel, rfl, by decide +kernel, by decide +kernel⟩
theorem at__law_bad_number : sg.tb.lookup ("_law_bad_number" : Str) = some f__law_bad_number := rfl
theorem look__law_odd : chkSs sg (f__law_odd).N (defScope (topS 37)) (defScope (topS 37)) (f__law_odd).body (defBody (topS 37)) = true := by decide +kernel
theorem scope__law_odd : FnScope (f__law_odd).N (f__law_odd).ps (defScope (topS 37)) := ⟨rfl, rfl, rfl, by decide +kernel, rfl, by decide +kernel, by decide +kernel⟩
theorem at__law_odd : sg.tb.lookup ("_law_odd" : Str) = some f__law_odd := rfl
theorem look__law_word : chkSs sg (f__law_word).N (defScope (topS 38)) (defScope (topS 38)) (f__law_word).body (defBody (topS 38)) = true := by decide +kernel
theorem scope__law_word : FnScope (f__law_word).N (f__law_word).ps (defScope (topS 38)) := ⟨rfl, rfl, rfl, by decide +kernel, rfl, by decide +kernel, by decide +kernel⟩
theorem at__law_word : sg.tb.lookup ("_law_word" : Str) = some f__law_word := rfl
theorem look__law_spoilt : chkSs sg (f__law_spoilt).N (defScope (topS 39)) (defScope (topS 39)) (f__law_spoilt).body (defBody (topS 39)) = true := by decide +kernel
theorem scope__law_spoilt : FnScope (f__law_spoilt).N (f__law_spoilt).ps (defScope (topS 39)) := ⟨rfl, rfl, rfl, by decide +kernel, rfl, by decide +kernel, by decide +kernel⟩
theorem at__law_spoilt : sg.tb.lookup ("_law_spoilt" : Str) = some f__law_spoilt := rfl
theorem look__law_below : chkSs sg (f__law_below).N (defScope (topS 40)) (defScope (topS 40)) (f__law_below).body (defBody (topS 40)) = true := by decide +kernel
theorem scope__law_below : FnScope (f__law_below).N (f__law_below).ps (defScope (topS 40)) := ⟨rfl, rfl, rfl, by decide +kernel, rfl, by decide +kernel, by decide +kernel⟩
theorem at__law_below : sg.tb.lookup ("_law_below" : Str) = some f__law_below := rfl
theorem look__law_is_right : chkSs sg (f__law_is_right).N (defScope (topS 41)) (defScope (topS 41)) (f__law_is_right).body (defBody (topS 41)) = true := by decide +kernel
theorem scope__law_is_right : FnScope (f__law_is_right).N (f__law_is_right).ps (defScope (topS 41)) := ⟨rfl, rfl, rfl, by decide +kernel, rfl, by decide +kernel, by decide +kernel⟩
theorem at__law_is_right : sg.tb.lookup ("_law_is_right" : Str) = some f__law_is_right := rfl
theorem look__law_parts : chkSs sg (f__law_parts).N (defScope (topS 42)) (defScope (topS 42)) (f__law_parts).body (defBody (topS 42)) = true := by decide +kernel
theorem scope__law_parts : FnScope (f__law_parts).N (f__law_parts).ps (defScope (topS 42)) := ⟨rfl, rfl, rfl, by decide +kernel, rfl, by decide +kernel, by decide +kernel⟩
theorem at__law_parts : sg.tb.lookup ("_law_parts" : Str) = some f__law_parts := rfl
theorem look__law_is_told : chkSs sg (f__law_is_told).N (defScope (topS 43)) (defScope (topS 43)) (f__law_is_told).body (defBody (topS 43)) = true := by decide +kernel
theorem scope__law_is_told : FnScope (f__law_is_told).N (f__law_is_told).ps (defScope (topS 43)) := ⟨rfl, rfl, rfl, by decide +kernel, rfl, by decide +kernel, by decide +kernel⟩
theorem at__law_is_told : sg.tb.lookup ("_law_is_told" : Str) = some f__law_is_told := rfl
theorem look__law_free_told : chkSs sg (f__law_free_told).N (defScope (topS 44)) (defScope (topS 44)) (f__law_free_told).body (defBody (topS 44)) = true := by decide +kernel
theorem scope__law_free_told : FnScope (f__law_free_told).N (f__law_free_told).ps (defScope (topS 44)) := ⟨rfl, rfl, rfl, by decide +kernel, rfl, by decide +kernel, by decide +kernel⟩
theorem at__law_free_told : sg.tb.lookup ("_law_free_told" : Str) = some f__law_free_told := rfl
theorem look__law_parts_told : chkSs sg (f__law_parts_told).N (defScope (topS 45)) (defScope (topS 45)) (f__law_parts_told).body (defBody (topS 45)) = true := by decide +kernel
theorem scope__law_parts_told : FnScope (f__law_parts_told).N (f__law_parts_told).ps (defScope (topS 45)) := ⟨rfl, rfl, rfl, by decide +kernel, rfl, by decide +kernel, by decide +kernel⟩
theorem at__law_parts_told : sg.tb.lookup ("_law_parts_told" : Str) = some f__law_parts_told := rfl
theorem look_law : chkSs sg (f_law).N (defScope (topS 46)) (defScope (topS 46)) (f_law).body (defBody (topS 46)) = true := by decide +kernel
theorem scope_law : FnScope (f_law).N (f_law).ps (defScope (topS 46)) := ⟨rfl, rfl, rfl, by decide +kernel, rfl, by decide +kernel, by decide +kernel⟩
theorem at_law : sg.tb.lookup ("law" : Str) = some f_law := rfl
end L2.K77

/-! K77B: small values; sayings drawn. Own work. -/
namespace L2.K77
open PySem L2.Iv L2.Tm L2.Sy
open L2.V (Src w_draw)
mutual
def small : PV → Bool
  | .int i => decide (i.natAbs < 10 ^ 30)
  | .str s => PyData.strOk s && decide (slen (.str s) ≤ 20 ∧ PyData.strOk (reprText s) = true)
  | .tup xs => smalls xs
  | .lsv xs => smalls xs
  | .non => true
  | .bl _ => true
  | .loc _ => false
  | .exn .. => false
def smalls : List PV → Bool
  | [] => true
  | x :: xs => small x && smalls xs
end
mutual
theorem small_fit : ∀ (v : PV) (n : Nat), small v = true → wt v ≤ n → fit n v = true
  | .int _, n, _, _ => by cases n <;> rfl
  | .str s, n, h, _ => by
    have h : (PyData.strOk s && decide (slen (.str s) ≤ 20 ∧ PyData.strOk (reprText s) = true)) = true := h
    rw [Bool.and_eq_true] at h
    rw [fit_str]; exact h.1
  | .tup xs, 0, _, hn => by rw [wt] at hn; omega
  | .tup xs, n + 1, h, hn => by rw [wt] at hn; exact smalls_fit xs n h (by omega)
  | .lsv xs, 0, _, hn => by rw [wt] at hn; omega
  | .lsv xs, n + 1, h, hn => by rw [wt] at hn; exact smalls_fit xs n h (by omega)
  | .non, n, _, _ => by cases n <;> rfl
  | .bl _, n, _, _ => by cases n <;> rfl
  | .loc _, _, h, _ => by cases h
  | .exn .., _, h, _ => by cases h
theorem smalls_fit : ∀ (xs : List PV) (n : Nat), smalls xs = true → wts xs ≤ n → fits n xs = true
  | [], _, _, _ => rfl
  | x :: xs, n, h, hn => by
    have h : (small x && smalls xs) = true := h
    rw [Bool.and_eq_true] at h
    rw [wts] at hn
    show (fit n x && fits n xs) = true
    rw [small_fit x n h.1 (by omega), smalls_fit xs n h.2 (by omega)]; rfl
end
mutual
theorem small_len : ∀ v : PV, small v = true → slen v + 2 ≤ 40 * wt v
  | .int i, h => by
    have h : decide (i.natAbs < 10 ^ 30) = true := h
    rw [decide_eq_true_eq] at h
    have := int_text_length_le10 (k := 30) (by decide) h
    show (toString i).length + 2 ≤ 40 * 1
    omega
  | .str s, h => by
    have h : (PyData.strOk s && decide (slen (.str s) ≤ 20 ∧ PyData.strOk (reprText s) = true)) = true := h
    rw [Bool.and_eq_true, decide_eq_true_eq] at h
    have h := h.2.1
    show slen (.str s) + 2 ≤ 40 * 1
    omega
  | .tup xs, h => by have := smalls_len xs h; show slens xs + 3 + 2 ≤ 40 * (1 + wts xs); omega
  | .lsv xs, h => by have := smalls_len xs h; show slens xs + 3 + 2 ≤ 40 * (1 + wts xs); omega
  | .non, _ => by show 4 + 2 ≤ 40 * 1; decide
  | .bl _, _ => by show 5 + 2 ≤ 40 * 1; decide
  | .loc _, h => by cases h
  | .exn .., h => by cases h
theorem smalls_len : ∀ xs : List PV, smalls xs = true → slens xs ≤ 40 * wts xs
  | [], _ => Nat.le_refl _
  | x :: xs, h => by
    have h : (small x && smalls xs) = true := h
    rw [Bool.and_eq_true] at h
    have h1 := small_len x h.1
    have h2 := smalls_len xs h.2
    show slen x + 2 + slens xs ≤ 40 * (wt x + wts xs)
    omega
end
mutual
theorem small_num : ∀ v : PV, small v = true → v.toD.showable = true
  | .int i, h => by
    have h : decide (i.natAbs < 10 ^ 30) = true := h
    rw [decide_eq_true_eq] at h
    exact (shows_int (n := 0) (k := 30) (by decide) h (by decide)).nums
  | .str _, _ => rfl
  | .tup xs, h => smalls_num xs h
  | .lsv xs, h => smalls_num xs h
  | .non, _ => rfl
  | .bl _, _ => rfl
  | .loc _, h => by cases h
  | .exn .., h => by cases h
theorem smalls_num : ∀ xs : List PV, smalls xs = true → PyData.showableAll (toDs xs) = true
  | [], _ => rfl
  | x :: xs, h => by
    have h : (small x && smalls xs) = true := h
    rw [Bool.and_eq_true] at h
    show (x.toD.showable && PyData.showableAll (toDs xs)) = true
    rw [small_num x h.1, smalls_num xs h.2]; rfl
end
/-! what is shown is a text -/
theorem ok_app (a b : Str) : PyData.strOk (a ++ b) = (PyData.strOk a && PyData.strOk b) := by
  unfold PyData.strOk
  rw [PySem.Str.cps_append, Array.all_append]
theorem ok_of (s : String) : PyData.strOk (Str.ofString s) = true := by
  unfold PyData.strOk
  rw [PySem.Str.ofString_eq_toList]
  simp only [List.all_toArray, List.all_map, List.all_eq_true]
  intro c _
  have := c.valid
  show decide (c.toNat < 0x110000) = true
  rw [decide_eq_true_eq]
  have h : c.toNat.isValidChar := c.valid
  rcases h with h | h <;> omega
theorem ok_from : ∀ (ts : List Str) (k : Nat) (acc : Str), PyData.strOk acc = true → (∀ t ∈ ts, PyData.strOk t = true) → PyData.strOk (textFrom k acc ts) = true
  | [], _, _, h, _ => h
  | t :: r, k, acc, h, ht => by
    show PyData.strOk (textFrom (k + 1) (acc ++ (if k > 0 then ", " else "" : String) ++ t) r) = true
    refine ok_from r (k + 1) _ ?_ fun u hu => ht u (List.mem_cons_of_mem _ hu)
    rw [ok_app, ok_app, h, ht t List.mem_cons_self, ok_of]; rfl
theorem ok_join : ∀ ts : List Str, (∀ t ∈ ts, PyData.strOk t = true) → PyData.strOk (Str.join ", " ts) = true
  | [], _ => by decide +kernel
  | [x], h => h x (by simp)
  | x :: y :: r, h => by
    show PyData.strOk (x ++ ", " ++ Str.join ", " (y :: r)) = true
    rw [ok_app, ok_app, h x (by simp), ok_of, ok_join (y :: r) fun u hu => h u (List.mem_cons_of_mem _ hu)]; rfl
mutual
theorem small_ok : ∀ v : PV, small v = true → PyData.strOk v.toD.shown = true
  | .int i, _ => ok_of (toString i)
  | .str s, h => by
    have h : (PyData.strOk s && decide (slen (.str s) ≤ 20 ∧ PyData.strOk (reprText s) = true)) = true := h
    rw [Bool.and_eq_true, decide_eq_true_eq] at h
    exact h.2.2
  | .tup xs, h => by
    have := smalls_ok xs h
    show PyData.strOk (tupleText (PyData.shownAll (toDs xs))) = true
    unfold tupleText
    rw [ok_app, ok_app, ok_of, ok_join _ this, ok_of]; rfl
  | .lsv xs, h => by
    have := smalls_ok xs h
    show PyData.strOk (listText (PyData.shownAll (toDs xs))) = true
    unfold listText
    rw [ok_app, ok_from _ _ _ (ok_of "[") this, ok_of]; rfl
  | .non, _ => ok_of "None"
  | .bl b, _ => by cases b <;> exact ok_of _
  | .loc _, h => by cases h
  | .exn .., h => by cases h
theorem smalls_ok : ∀ xs : List PV, smalls xs = true → ∀ t ∈ PyData.shownAll (toDs xs), PyData.strOk t = true
  | [], _, t, ht => by cases ht
  | x :: xs, h, t, ht => by
    have h : (small x && smalls xs) = true := h
    rw [Bool.and_eq_true] at h
    have ht : t ∈ x.toD.shown :: PyData.shownAll (toDs xs) := ht
    rcases List.mem_cons.mp ht with rfl | ht
    · exact small_ok x h.1
    · exact smalls_ok xs h.2 t ht
end
theorem small_shows {v : PV} {n : Nat} (h : small v = true) (hn : wt v ≤ n) : Shows v n (40 * wt v) := ⟨small_fit v n h hn, small_num v h, by have := small_len v h; omega⟩
theorem smalls_app (a b : List PV) : smalls (a ++ b) = (smalls a && smalls b) := by
  induction a with
  | nil => simp [smalls]
  | cons x a ih => rw [List.cons_append, smalls, smalls, ih, Bool.and_assoc]
theorem sm_w : ∀ w ∈ [("empty" : Str), "one", "in", "before", "next", "has", "not", "both", "either", "some", "every", "someone", "each"], small (.str w) = true := by
  intro w hw
  have : [("empty" : Str), "one", "in", "before", "next", "has", "not", "both", "either", "some", "every", "someone", "each"].all (fun w => small (.str w)) = true := by decide +kernel
  exact List.all_eq_true.mp this w hw
theorem small_nat {a : Nat} (h : a < 10) : small (.int a) = true := decide_eq_true (by show ((a : Nat) : Int).natAbs < _; omega)
theorem small_S {k : Nat} (hk : k ≤ 4) : ∀ s : S, wfS k s → small (encS s) = true
  | .a1 w a, h => by
    have h1 := sm_w w (by rcases h.1 with rfl | rfl <;> simp)
    have h2 := small_nat (a := a) (by have := h.2; omega)
    show (small (.str w) && (small (.int a) && true)) = true
    rw [h1, h2]; rfl
  | .a2 w a b, h => by
    have h1 := sm_w w (by rcases h.1 with rfl | rfl | rfl <;> simp)
    have h2 := small_nat (a := a) (by have := h.2.1; omega)
    have h3 := small_nat (a := b) (by have := h.2.2; omega)
    show (small (.str w) && (small (.int a) && (small (.int b) && true))) = true
    rw [h1, h2, h3]; rfl
  | .has a b, h => by
    have h1 := sm_w "has" (by simp)
    have h2 := small_nat (a := a) (by have := h.1; omega)
    have h3 := small_nat (a := b) (by have := h.2; omega)
    show (small (.str "has") && (small (.int a) && (small (.int b) && true))) = true
    rw [h1, h2, h3]; rfl
  | .neg s, h => by
    have h1 := sm_w "not" (by simp)
    show (small (.str "not") && (small (encS s) && true)) = true
    rw [h1, small_S hk s h]; rfl
  | .two w s t, h => by
    have h1 := sm_w w (by rcases h.1 with rfl | rfl <;> simp)
    show (small (.str w) && (small (encS s) && (small (encS t) && true))) = true
    rw [h1, small_S hk s h.2.1, small_S hk t h.2.2]; rfl
  | .qu w a s, h => by
    have h1 := sm_w w (by rcases h.1 with rfl | rfl | rfl | rfl <;> simp)
    have h2 := small_nat (a := a) (by have := h.2.1; omega)
    show (small (.str w) && (small (.int a) && (small (encS s) && true))) = true
    rw [h1, h2, small_S hk s h.2.2]; rfl
theorem wt_S : ∀ s : S, wt (encS s) ≤ 4 * nd s
  | .a1 w a => by show 1 + (1 + (1 + 0)) ≤ 4 * 1; decide
  | .a2 w a b => by show 1 + (1 + (1 + (1 + 0))) ≤ 4 * 1; decide
  | .has a b => by show 1 + (1 + (1 + (1 + 0))) ≤ 4 * 1; decide
  | .neg s => by have := wt_S s; show 1 + (1 + (wt (encS s) + 0)) ≤ 4 * (1 + nd s); omega
  | .two w s t => by have := wt_S s; have := wt_S t; show 1 + (1 + (wt (encS s) + (wt (encS t) + 0))) ≤ 4 * (1 + nd s + nd t); omega
  | .qu w a s => by have := wt_S s; show 1 + (1 + (1 + (wt (encS s) + 0))) ≤ 4 * (1 + nd s); omega
variable {cl : Str → Nat} {st : Store} {n : Nat} {Q : PV → Store → Prop}
theorem aD : L2.V.At sg "_law_draw" L2.V.f__law_draw := at__law_draw
theorem aM : L2.V.At sg "_law_mixed" L2.V.f__law_mixed := at__law_mixed
theorem w_atom {k c i : Nat} {xs : List PV} (hk : 0 < k) (hk2 : k ≤ 4) (hi : st[i]? = some xs) (hx : Src c xs) (hc : c < 10 ^ 11)
    (q : ∀ (s : S) (ys : List PV), wfS k s → nd s = 1 → Src (c + 3) ys → Q (encS s) (st.set i ys)) : wpO ((K77.sg.ctx cl (n + 3)).fn "_law_atom" [.loc i, .int k] st) Q := by
  refine wp_fn1 at__law_atom rfl rfl rfl hi hx.free ?_
  simp only [f__law_atom, env0]
  rw [wp_ss]
  simp
  refine wpX_of_wp (w_draw (n := n) aD aM rfl hx (by omega) (by decide) (by decide) fun r xs r0 r1 hx => ?_)
  have words : r = 0 ∨ r = 1 ∨ r = 2 ∨ r = 3 ∨ r = 4 ∨ r = 5 := by omega
  have nat : ∀ {x : Int}, 0 ≤ x → x = ((x.toNat : Nat) : Int) := fun h => (Int.toNat_of_nonneg h).symm
  have ff : ∀ (w : Str) (a : Int) z, frz 1 z 64 (.tup [.str w, .int a]) = some (.tup [.str w, .int a]) := fun w a z => frz_free rfl
  have ff2 : ∀ (w : Str) (a b : Int) z, frz 1 z 64 (.tup [.str w, .int a, .int b]) = some (.tup [.str w, .int a, .int b]) := fun w a b z => frz_free rfl
  have one : ∀ (w : Str), (w = ("empty" : Str) ∨ w = ("one" : Str)) → wpO (evSs (K77.sg.ctx cl (n + 2)) (.cons (.asg (.p (.n 3)) (.call "_law_draw" (.cons (.v 0) (.cons (.c (.int 3)) .nil)))) <|
      .cons (.iff (.cmp .isin (.v 2) (.tup (.cons (.c (.str "empty")) (.cons (.c (.str "one")) .nil)))) (.cons (.ret (.tup (.cons (.v 2) (.cons (.v 3) .nil)))) <|
        .nil) (.nil)) <|
      .cons (.ret (.tup (.cons (.v 2) (.cons (.v 3) (.cons (.call "_law_draw" (.cons (.v 0) (.cons (.ite (.cmp .eq (.v 2) (.c (.str "has"))) (.v 1) (.c (.int 3))) .nil))) .nil))))) <|
      .nil) [some (.loc 0), some (.int k), some (.str w), none] [xs]) fun r s2 => ∃ ys, s2[0]? = some ys ∧ freeAll ys = true ∧ match r with
        | .rt v => ∃ v', frz 1 s2 64 v = some v' ∧ Q v' (st.set i ys)
        | .nx _ => Q .non (st.set i ys)
        | _ => False := by
    intro w hw
    rw [wp_ss]
    simp
    refine wpX_of_wp (w_draw (n := n) aD aM rfl hx (by omega) (by decide) (by decide) fun a xs a0 a1 hx => ?_)
    simp
    rw [wp_ss]
    simp [hw]
    rw [wp_ss]
    simp
    refine ⟨hx.free, _, ff w a _, ?_⟩
    rw [nat a0]
    exact q (.a1 w a.toNat) xs ⟨hw, by omega⟩ rfl (hx.up (by omega))
  have two : ∀ (w : Str), (w = ("in" : Str) ∨ w = ("before" : Str) ∨ w = ("next" : Str) ∨ w = ("has" : Str)) → wpO (evSs (K77.sg.ctx cl (n + 2)) (.cons (.asg (.p (.n 3)) (.call "_law_draw" (.cons (.v 0) (.cons (.c (.int 3)) .nil)))) <|
      .cons (.iff (.cmp .isin (.v 2) (.tup (.cons (.c (.str "empty")) (.cons (.c (.str "one")) .nil)))) (.cons (.ret (.tup (.cons (.v 2) (.cons (.v 3) .nil)))) <|
        .nil) (.nil)) <|
      .cons (.ret (.tup (.cons (.v 2) (.cons (.v 3) (.cons (.call "_law_draw" (.cons (.v 0) (.cons (.ite (.cmp .eq (.v 2) (.c (.str "has"))) (.v 1) (.c (.int 3))) .nil))) .nil))))) <|
      .nil) [some (.loc 0), some (.int k), some (.str w), none] [xs]) fun r s2 => ∃ ys, s2[0]? = some ys ∧ freeAll ys = true ∧ match r with
        | .rt v => ∃ v', frz 1 s2 64 v = some v' ∧ Q v' (st.set i ys)
        | .nx _ => Q .non (st.set i ys)
        | _ => False := by
    intro w hw
    have nw : ¬ (w = ("empty" : Str) ∨ w = ("one" : Str)) := by rcases hw with rfl | rfl | rfl | rfl <;> simp
    rw [wp_ss]
    simp
    refine wpX_of_wp (w_draw (n := n) aD aM rfl hx (by omega) (by decide) (by decide) fun a xs a0 a1 hx => ?_)
    simp
    rw [wp_ss]
    simp [nw]
    rw [wp_ss]
    by_cases hh : w = ("has" : Str)
    · subst hh
      simp
      refine wpX_of_wp (w_draw (n := n) aD aM rfl hx (by omega) (by omega) (by omega) fun b xs b0 b1 hx => ?_)
      simp
      refine ⟨hx.free, _, ff2 _ a b _, ?_⟩
      rw [nat a0, nat b0]
      exact q (.has a.toNat b.toNat) xs ⟨by omega, by omega⟩ rfl (hx.up (by omega))
    · have hh2 : (w == ("has" : Str)) = false := by simpa using hh
      simp [hh2]
      refine wpX_of_wp (w_draw (n := n) aD aM rfl hx (by omega) (by decide) (by decide) fun b xs b0 b1 hx => ?_)
      simp
      refine ⟨hx.free, _, ff2 _ a b _, ?_⟩
      rw [nat a0, nat b0]
      exact q (.a2 w a.toNat b.toNat) xs ⟨hw.elim .inl fun h => h.elim (fun h => .inr (.inl h)) fun h => h.elim (fun h => .inr (.inr h)) fun h => absurd h hh, by omega, by omega⟩ rfl (hx.up (by omega))
  rcases words with rfl | rfl | rfl | rfl | rfl | rfl
  · simp
    exact one "empty" (by simp)
  · simp
    exact one "one" (by simp)
  · simp
    exact two "in" (by simp)
  · simp
    exact two "has" (by simp)
  · simp [at_nn]
    exact two "before" (by simp)
  · simp [at_nn]
    exact two "next" (by simp)
end L2.K77

/-! K77C: sayings drawn. Own work. -/
namespace L2.K77
open PySem L2.Iv L2.Tm L2.Sy
open L2.V (Src w_draw)
variable {cl : Str → Nat}
theorem w_saying {k : Nat} (hk : 0 < k) (hk2 : k ≤ 4) : ∀ (N m R : Nat) (deep places sets : Int) (c i : Nat) (xs : List PV) (st : Store) (Q : PV → Store → Prop), 1 ≤ R → R ≤ N → N ≤ 100 → N < m → c + 5 * R < 10 ^ 11 → st[i]? = some xs → Src c xs →
    (∀ (s : S) (ys : List PV), wfS k s → nd s ≤ R → Src (c + 5 * R) ys → Q (encS s) (st.set i ys)) → wpO ((K77.sg.ctx cl (m + 3)).fn "_law_saying" [.loc i, .int k, .int R, .int deep, .int places, .int sets] st) Q := by
  intro N
  induction N with
  | zero => intro m R deep places sets c i xs st Q ha hb; omega
  | succ N ih =>
    intro m R deep places sets c i xs st Q ha hb hn hd hc hi hx q
    obtain ⟨m, rfl⟩ : ∃ k, m = k + 1 := ⟨m - 1, by omega⟩
    refine wp_fn1 at__law_saying rfl rfl rfl hi hx.free ?_
    simp only [f__law_saying, env0]
    rw [wp_ss]
    simp
    refine wpX_of_wp (w_draw (n := m + 1) aD aM rfl hx (by omega) (by decide) (by decide) fun way xs w0 w1 hx => ?_)
    simp
    rw [wp_ss]
    have atom : ∀ (e : Iv.Env) (cc : Nat) (ys : List PV), Src cc ys → cc + 3 ≤ c + 5 * R → e[0]? = some (some (.loc 0)) → e[1]? = some (some (.int k)) →
        wpO (evS (K77.sg.ctx cl (m + 3)) (.ret (.call "_law_atom" (.cons (.v 0) (.cons (.v 1) .nil)))) e [ys]) fun f s2 => match f with
          | .rt v => ∃ ys, s2[0]? = some ys ∧ freeAll ys = true ∧ ∃ v', frz 1 s2 64 v = some v' ∧ Q v' (st.set i ys)
          | _ => False := by
      intro e cc ys hy hcc e0 e1
      simp [e0, e1]
      refine wpX_of_wp (w_atom (n := m) hk hk2 rfl hy (by omega) fun s zs hs h1 hz => ?_)
      simp
      exact ⟨hz.free, _, frz_free (free_encS s), q s zs hs (by omega) (hz.up hcc)⟩
    have t1 : evC (K77.sg.ctx cl (m + 3)) (.ors (.cons (.cmp .lt (.v 2) (.c (.int 2))) (.cons (.cmp .eq (.v 3) (.c (.int 0))) (.cons (.cmp .eq (.v 6) (.c (.int 0))) .nil)))) [some (.loc 0), some (.int k), some (.int R), some (.int deep), some (.int places), some (.int sets), some (.int way), none, none, none, none, none, none] [xs] = .ok (decide ((R : Int) < 2 ∨ deep = 0 ∨ way = 0)) [xs] := by
      by_cases h1 : (R : Int) < 2
      · simp [h1]
      · by_cases h2 : deep = 0
        · simp [h1, h2]
        · have h3 : (deep == 0) = false := by simpa using h2
          simp [h1, h2, h3]
          exact Bool.beq_eq_decide_eq way 0
    rw [r_siff, t1]
    by_cases hz : (R : Int) < 2 ∨ deep = 0 ∨ way = 0
    · rw [decide_eq_true hz]
      simp only [ok_lift, if_true]
      rw [wp_ss]
      refine wp_mono (atom _ (c + 1) xs hx (by omega) rfl rfl) fun f s2 h => ?_
      cases f with
      | rt v => exact h
      | _ => exact h.elim
    rw [decide_eq_false hz]
    simp only [not_or] at hz
    obtain ⟨z1, z2, z3⟩ := hz
    simp only [ok_lift, Bool.false_eq_true, if_false, r_ss0, wp_ok]
    have key : ∀ way2 : Int, 0 < way2 → way2 ≤ 8 → wpO (evSs (K77.sg.ctx cl (m + 3)) (.cons (.iff (.ors (.cons (.ands (.cons (.cmp .gt (.v 6) (.c (.int 4))) (.cons (.cmp .eq (.v 4) (.c (.int 0))) .nil))) (.cons (.cmp .eq (.v 6) (.c (.int 1))) .nil))) (.cons (.ret (.tup (.cons (.c (.str "not")) (.cons (.call "_law_saying" (.cons (.v 0) (.cons (.v 1) (.cons (.bin .sub true (.v 2) (.c (.int 1))) (.cons (.bin .sub true (.v 3) (.c (.int 1))) (.cons (.v 4) (.cons (.v 5) .nil))))))) .nil)))) <|
    .nil) (.nil)) <|
  .cons (.iff (.cmp .gt (.v 6) (.c (.int 4))) (.cons (.asg (.p (.n 10)) (.ix (.lst true (.cons (.c (.str "someone")) (.cons (.c (.str "each")) (.cons (.c (.str "some")) (.cons (.c (.str "every")) .nil))))) (.bin .sub true (.v 6) (.c (.int 5))))) <|
    .cons (.asg (.p (.n 11)) (.call "_law_draw" (.cons (.v 0) (.cons (.c (.int 3)) .nil)))) <|
    .cons (.asg (.p (.n 12)) (.ite (.cmp .gt (.v 6) (.c (.int 6))) (.bin .sub true (.v 5) (.c (.int 1))) (.v 5))) <|
    .cons (.ret (.tup (.cons (.v 10) (.cons (.v 11) (.cons (.call "_law_saying" (.cons (.v 0) (.cons (.v 1) (.cons (.bin .sub true (.v 2) (.c (.int 1))) (.cons (.bin .sub true (.v 3) (.c (.int 1))) (.cons (.bin .sub true (.v 4) (.c (.int 1))) (.cons (.v 12) .nil))))))) .nil))))) <|
    .nil) (.nil)) <|
  .cons (.iff (.cmp .lt (.v 2) (.c (.int 3))) (.cons (.ret (.call "_law_atom" (.cons (.v 0) (.cons (.v 1) .nil)))) <|
    .nil) (.nil)) <|
  .cons (.asg (.p (.n 7)) (.bin .add true (.c (.int 1)) (.call "_law_draw" (.cons (.v 0) (.cons (.bin .sub true (.v 2) (.c (.int 2))) .nil))))) <|
  .cons (.asg (.p (.n 8)) (.call "_law_saying" (.cons (.v 0) (.cons (.v 1) (.cons (.v 7) (.cons (.bin .sub true (.v 3) (.c (.int 1))) (.cons (.v 4) (.cons (.v 5) .nil)))))))) <|
  .cons (.asg (.p (.n 9)) (.call "_law_saying" (.cons (.v 0) (.cons (.v 1) (.cons (.bin .sub true (.bin .sub true (.v 2) (.c (.int 1))) (.v 7)) (.cons (.bin .sub true (.v 3) (.c (.int 1))) (.cons (.v 4) (.cons (.v 5) .nil)))))))) <|
  .cons (.ret (.tup (.cons (.ite (.cmp .eq (.v 6) (.c (.int 3))) (.c (.str "either")) (.c (.str "both"))) (.cons (.v 8) (.cons (.v 9) .nil))))) <|
  .nil) [some (.loc 0), some (.int k), some (.int R), some (.int deep), some (.int places), some (.int sets), some (.int way2), none, none, none, none, none, none] [xs]) fun f s2 => ∃ ys, s2[0]? = some ys ∧ freeAll ys = true ∧ match f with
          | .rt v => ∃ v', frz 1 s2 64 v = some v' ∧ Q v' (st.set i ys)
          | .nx _ => Q .non (st.set i ys)
          | _ => False := by
      intro way2 v0 v1
      have sub1 : ∀ (deep places sets : Int) (cc : Nat) (ys : List PV) (P : PV → Store → Prop), Src cc ys → cc + 5 * (R - 1) < 10 ^ 11 → (∀ (s : S) (zs : List PV), wfS k s → nd s ≤ R - 1 → Src (cc + 5 * (R - 1)) zs → P (encS s) [zs]) →
          wpO ((K77.sg.ctx cl (m + 3)).fn "_law_saying" [.loc 0, .int k, .int ((R : Int) - 1), .int deep, .int places, .int sets] [ys]) P := by
        intro deep places sets cc ys P hy hcc hP
        rw [show (R : Int) - 1 = ((R - 1 : Nat) : Int) by omega]
        exact ih m (R - 1) deep places sets cc 0 ys [ys] P (by omega) (by omega) (by omega) (by omega) hcc rfl hy hP
      rw [wp_ss]
      have t2 : evC (K77.sg.ctx cl (m + 3)) (.ors (.cons (.ands (.cons (.cmp .gt (.v 6) (.c (.int 4))) (.cons (.cmp .eq (.v 4) (.c (.int 0))) .nil))) (.cons (.cmp .eq (.v 6) (.c (.int 1))) .nil))) [some (.loc 0), some (.int k), some (.int R), some (.int deep), some (.int places), some (.int sets), some (.int way2), none, none, none, none, none, none] [xs] = .ok (decide ((4 < way2 ∧ places = 0) ∨ way2 = 1)) [xs] := by
        by_cases h1 : 4 < way2
        · by_cases h2 : places = 0
          · simp [h1, h2]
          · have h3 : (places == 0) = false := by simpa using h2
            simp [h1, h2, h3]
            exact Bool.beq_eq_decide_eq way2 1
        · simp [h1]
          exact Bool.beq_eq_decide_eq way2 1
      rw [r_siff, t2]
      by_cases hz : (4 < way2 ∧ places = 0) ∨ way2 = 1
      · rw [decide_eq_true hz]
        simp only [ok_lift, if_true]
        rw [wp_ss]
        simp
        refine wpX_of_wp (sub1 _ _ _ (c + 1) xs _ hx (by omega) fun s zs hs h1 hz => ?_)
        simp
        exact ⟨hz.free, _, frz_free (free_encS (.neg s)), q (.neg s) zs hs (by rw [nd]; omega) (hz.up (by omega))⟩
      rw [decide_eq_false hz]
      simp only [ok_lift, Bool.false_eq_true, if_false, r_ss0, wp_ok]
      rw [wp_ss]
      by_cases h4 : 4 < way2
      · simp [h4]
        rw [wp_ss]
        have quant : ∀ (w : Str), (w = ("some" : Str) ∨ w = ("every" : Str) ∨ w = ("someone" : Str) ∨ w = ("each" : Str)) → wpO (evSs (K77.sg.ctx cl (m + 3)) (.cons (.asg (.p (.n 11)) (.call "_law_draw" (.cons (.v 0) (.cons (.c (.int 3)) .nil)))) <|
    .cons (.asg (.p (.n 12)) (.ite (.cmp .gt (.v 6) (.c (.int 6))) (.bin .sub true (.v 5) (.c (.int 1))) (.v 5))) <|
    .cons (.ret (.tup (.cons (.v 10) (.cons (.v 11) (.cons (.call "_law_saying" (.cons (.v 0) (.cons (.v 1) (.cons (.bin .sub true (.v 2) (.c (.int 1))) (.cons (.bin .sub true (.v 3) (.c (.int 1))) (.cons (.bin .sub true (.v 4) (.c (.int 1))) (.cons (.v 12) .nil))))))) .nil))))) <|
    .nil) [some (.loc 0), some (.int k), some (.int R), some (.int deep), some (.int places), some (.int sets), some (.int way2), none, none, none, some (.str w), none, none] [xs]) fun f s2 => match f with
          | .rt v => ∃ ys, s2[0]? = some ys ∧ freeAll ys = true ∧ ∃ v', frz 1 s2 64 v = some v' ∧ Q v' (st.set i ys)
          | _ => False := by
          intro w hw
          rw [wp_ss]
          simp
          refine wpX_of_wp (w_draw (n := m + 1) aD aM rfl hx (by omega) (by decide) (by decide) fun a ys a0 a1 hy => ?_)
          simp
          rw [wp_ss]
          have fin : ∀ left : Int, wpO (evSs (K77.sg.ctx cl (m + 3)) (.cons (.ret (.tup (.cons (.v 10) (.cons (.v 11) (.cons (.call "_law_saying" (.cons (.v 0) (.cons (.v 1) (.cons (.bin .sub true (.v 2) (.c (.int 1))) (.cons (.bin .sub true (.v 3) (.c (.int 1))) (.cons (.bin .sub true (.v 4) (.c (.int 1))) (.cons (.v 12) .nil))))))) .nil))))) .nil) [some (.loc 0), some (.int k), some (.int R), some (.int deep), some (.int places), some (.int sets), some (.int way2), none, none, none, some (.str w), some (.int a), some (.int left)] [ys]) fun f s2 => match f with
              | .rt v => ∃ ys, s2[0]? = some ys ∧ freeAll ys = true ∧ ∃ v', frz 1 s2 64 v = some v' ∧ Q v' (st.set i ys)
              | _ => False := by
            intro left
            rw [wp_ss]
            simp
            refine wpX_of_wp (sub1 _ _ _ (c + 1 + 1) ys _ hy (by omega) fun s zs hs h1 hz => ?_)
            simp
            rw [show a = ((a.toNat : Nat) : Int) by omega]
            exact ⟨hz.free, _, frz_free (free_encS (.qu w a.toNat s)), q (.qu w a.toNat s) zs ⟨hw, by omega, hs⟩ (by rw [nd]; omega) (hz.up (by omega))⟩
          by_cases h6 : 6 < way2
          · simp [h6]
            exact fin _
          · simp [h6]
            exact fin _
        have conv : ∀ (w : Str) (hw : w = ("some" : Str) ∨ w = ("every" : Str) ∨ w = ("someone" : Str) ∨ w = ("each" : Str)), wpO (evSs (K77.sg.ctx cl (m + 3)) _ [some (.loc 0), some (.int k), some (.int R), some (.int deep), some (.int places), some (.int sets), some (.int way2), none, none, none, some (.str w), none, none] [xs]) _ := fun w hw => quant w hw
        have ws : way2 = 5 ∨ way2 = 6 ∨ way2 = 7 ∨ way2 = 8 := by omega
        rcases ws with rfl | rfl | rfl | rfl
        · simp
          refine wp_mono (quant "someone" (by simp)) fun f s2 h => ?_
          cases f with
          | rt v => exact h
          | _ => exact h.elim
        · simp
          refine wp_mono (quant "each" (by simp)) fun f s2 h => ?_
          cases f with
          | rt v => exact h
          | _ => exact h.elim
        · simp
          refine wp_mono (quant "some" (by simp)) fun f s2 h => ?_
          cases f with
          | rt v => exact h
          | _ => exact h.elim
        · simp
          refine wp_mono (quant "every" (by simp)) fun f s2 h => ?_
          cases f with
          | rt v => exact h
          | _ => exact h.elim
      · simp [h4]
        rw [wp_ss]
        by_cases h3 : (R : Int) < 3
        · simp [h3]
          rw [wp_ss]
          refine wp_mono (atom _ (c + 1) xs hx (by omega) rfl rfl) fun f s2 h => ?_
          cases f with
          | rt v => exact h
          | _ => exact h.elim
        · simp [h3]
          rw [wp_ss]
          simp
          refine wpX_of_wp (w_draw (n := m + 1) aD aM rfl hx (by omega) (by omega) (by omega) fun r ys r0 r1 hy => ?_)
          simp
          rw [wp_ss]
          obtain ⟨f, hf, hf2, hf3⟩ : ∃ f : Nat, 1 + r = (f : Int) ∧ 1 ≤ f ∧ f + 2 ≤ R := ⟨(1 + r).toNat, by omega, by omega, by omega⟩
          rw [hf]
          simp
          refine wpX_of_wp (ih m f (deep - 1) places sets (c + 1 + 1) 0 ys [ys] _ (by omega) (by omega) (by omega) (by omega) (by omega) rfl hy fun s zs hs h1 hz => ?_)
          simp
          rw [wp_ss]
          simp
          rw [show (R : Int) - 1 - (f : Int) = ((R - 1 - f : Nat) : Int) by omega]
          refine wpX_of_wp (ih m (R - 1 - f) (deep - 1) places sets (c + 1 + 1 + 5 * f) 0 zs [zs] _ (by omega) (by omega) (by omega) (by omega) (by omega) rfl hz fun t us ht h2 hu => ?_)
          simp
          rw [wp_ss]
          by_cases hw : way2 = 3
          · subst hw
            simp
            exact ⟨hu.free, _, frz_free (free_encS (.two "either" s t)), q (.two "either" s t) us ⟨.inr rfl, hs, ht⟩ (by rw [nd]; omega) (hu.up (by omega))⟩
          · have hw2 : (way2 == 3) = false := by simpa using hw
            simp [hw2]
            exact ⟨hu.free, _, frz_free (free_encS (.two "both" s t)), q (.two "both" s t) us ⟨.inl rfl, hs, ht⟩ (by rw [nd]; omega) (hu.up (by omega))⟩
    rw [wp_ss]
    by_cases h6 : 6 < way
    · by_cases hs : sets = 0
      · simp [h6, hs]
        rw [wp_ss]
        simp
        subst hs
        exact key (way - 2) (by omega) (by omega)
      · have hs2 : (sets == 0) = false := by simpa using hs
        simp [h6, hs2]
        exact key way (by omega) (by omega)
    · simp [h6]
      exact key way (by omega) (by omega)
end L2.K77

/-! K77D: odd things, sayings spoilt. Own work. -/
namespace L2.K77
open PySem L2.Iv L2.Tm L2.Sy
open L2.V (Src w_draw)
variable {cl : Str → Nat} {st : Store} {n : Nat} {Q : PV → Store → Prop}
theorem smalls_all : ∀ l : List PV, smalls l = l.all small
  | [] => rfl
  | x :: l => by rw [smalls, List.all_cons, smalls_all l]
theorem small_free {v : PV} (h : small v = true) : v.free = true := fit_free (small_fit v (wt v) h (Nat.le_refl _))
theorem smalls_sub {l m : List PV} (h : smalls l = true) (hm : ∀ x ∈ m, x ∈ l) : smalls m = true := by
  rw [smalls_all, List.all_eq_true] at h ⊢
  exact fun x hx => h x (hm x hx)
theorem wts_cut (n : Nat) (l : List PV) : wts (l.take n) + wts (l.drop n) = wts l := by rw [← wts_app, List.take_append_drop]
theorem wts_rev : ∀ l : List PV, wts l.reverse = wts l
  | [] => rfl
  | x :: l => by rw [List.reverse_cons, wts_app, wts_rev l, wts, wts, wts]; omega
/-- a value of a list, drawn -/
theorem pick {l : List PV} {r : Int} (h0 : 0 ≤ r) (h1 : r < (l.length : Int)) : ∃ v ∈ l, L2.atI l r = some v := by
  refine ⟨l[r.toNat]'(by omega), List.getElem_mem _, ?_⟩
  rw [at_nn h0, List.getElem?_eq_getElem]
def oddK (k : Int) : List PV := [.int 3, .int (-1), .int k, .int 4, .bl true, .bl false, .non, .str "0", .str "empty", .int (10 ^ 29), .tup [], .tup [.int 0], .lsv [.int 0], .int 0, .int 1, .int 2]
theorem odd_ok {k : Nat} (hk : k ≤ 4) : ∀ v ∈ oddK k, small v = true ∧ wt v ≤ 2 := by
  have h : ∀ j ∈ [(0 : Nat), 1, 2, 3, 4], (oddK j).all (fun v => small v && decide (wt v ≤ 2)) = true := by decide +kernel
  intro v hv
  have := List.all_eq_true.mp (h k (by simp only [List.mem_cons, List.not_mem_nil, or_false]; omega)) v hv
  simpa using this
theorem w_odd {k c i : Nat} {xs : List PV} (hk : k ≤ 4) (hi : st[i]? = some xs) (hx : Src c xs) (hc : c < 10 ^ 11)
    (q : ∀ (v : PV) (ys : List PV), small v = true → wt v ≤ 2 → Src (c + 1) ys → Q v (st.set i ys)) : wpO ((K77.sg.ctx cl (n + 3)).fn "_law_odd" [.loc i, .int k] st) Q := by
  refine wp_fn1 at__law_odd rfl rfl rfl hi hx.free ?_
  simp only [f__law_odd, env0]
  rw [wp_ss]
  simp
  refine wpX_of_wp (w_draw (n := n) aD aM rfl hx (by omega) (by decide) (by decide) fun r xs r0 r1 hx => ?_)
  obtain ⟨v, hv, e⟩ := pick (l := oddK k) r0 (by show r < 16; exact r1)
  obtain ⟨h1, h2⟩ := odd_ok hk v hv
  simp only [oddK] at e
  simp at e
  simp [e]
  exact ⟨hx.free, v, frz_free (small_free h1), q v xs h1 h2 hx⟩
def wordK : List PV := [.str "empty", .str "one", .str "in", .str "has", .str "before", .str "next", .str "not", .str "both", .str "either", .str "someone", .str "each", .str "some", .str "every", .str "Not", .str "", .str "all", .str "some ", .str "none", .str "true"]
theorem word_ok : ∀ v ∈ wordK, small v = true ∧ wt v ≤ 1 := by
  have h : wordK.all (fun v => small v && decide (wt v ≤ 1)) = true := by decide +kernel
  intro v hv
  have := List.all_eq_true.mp h v hv
  simpa using this
theorem w_word {c i : Nat} {xs : List PV} (hi : st[i]? = some xs) (hx : Src c xs) (hc : c < 10 ^ 11)
    (q : ∀ (v : PV) (ys : List PV), small v = true → wt v ≤ 1 → Src (c + 1) ys → Q v (st.set i ys)) : wpO ((K77.sg.ctx cl (n + 3)).fn "_law_word" [.loc i] st) Q := by
  refine wp_fn1 at__law_word rfl rfl rfl hi hx.free ?_
  simp only [f__law_word, env0]
  rw [wp_ss]
  simp
  rw [wp_ss]
  simp
  refine wpX_of_wp (w_draw (n := n) aD aM rfl hx (by omega) (by decide) (by decide) fun r xs r0 r1 hx => ?_)
  obtain ⟨v, hv, e⟩ := pick (l := wordK) r0 (by show r < 19; exact r1)
  obtain ⟨h1, h2⟩ := word_ok v hv
  simp only [wordK] at e
  simp [e]
  exact ⟨hx.free, v, frz_free (small_free h1), q v xs h1 h2 hx⟩
def badK : List PV := [.int 0, .int 5, .int (-1), .bl true, .bl false, .non, .str "2", .int (10 ^ 29), .tup [.int 1], .lsv [.int 2]]
theorem bad_ok : ∀ v ∈ badK, small v = true ∧ wt v ≤ 2 ∧ L2.P.btw 1 4 v = false := by
  have h : badK.all (fun v => small v && decide (wt v ≤ 2) && !L2.P.btw 1 4 v) = true := by decide +kernel
  intro v hv
  have := List.all_eq_true.mp h v hv
  simpa [and_assoc] using this
theorem w_bad {c i : Nat} {xs : List PV} (hi : st[i]? = some xs) (hx : Src c xs) (hc : c < 10 ^ 11)
    (q : ∀ (v : PV) (ys : List PV), small v = true → wt v ≤ 2 → L2.P.btw 1 4 v = false → Src (c + 1) ys → Q v (st.set i ys)) : wpO ((K77.sg.ctx cl (n + 3)).fn "_law_bad_number" [.loc i] st) Q := by
  refine wp_fn1 at__law_bad_number rfl rfl rfl hi hx.free ?_
  simp only [f__law_bad_number, env0]
  rw [wp_ss]
  simp
  refine wpX_of_wp (w_draw (n := n) aD aM rfl hx (by omega) (by decide) (by decide) fun r xs r0 r1 hx => ?_)
  obtain ⟨v, hv, e⟩ := pick (l := badK) r0 (by show r < 10; exact r1)
  obtain ⟨h1, h2, h3⟩ := bad_ok v hv
  simp only [badK] at e
  simp at e
  simp [e]
  exact ⟨hx.free, v, frz_free (small_free h1), q v xs h1 h2 h3 hx⟩
/-- the head word, what stands behind it -/
def hw : S → Str
  | .a1 w _ => w
  | .a2 w _ _ => w
  | .has _ _ => "has"
  | .neg _ => "not"
  | .two w _ _ => w
  | .qu w _ _ => w
def args : S → List PV
  | .a1 _ a => [.int a]
  | .a2 _ a b => [.int a, .int b]
  | .has a b => [.int a, .int b]
  | .neg s => [encS s]
  | .two _ s t => [encS s, encS t]
  | .qu _ a s => [.int a, encS s]
theorem enc_args (s : S) : encS s = .tup (.str (hw s) :: args s) := by cases s <;> rfl
theorem args_ty (s : S) : ∀ x ∈ args s, (∃ a : Nat, x = .int a) ∨ ∃ t ∈ sub s, x = encS t := by
  intro x hx
  cases s <;> simp only [args, List.mem_cons, List.not_mem_nil, or_false] at hx
  · exact .inl ⟨_, hx⟩
  · rcases hx with rfl | rfl <;> exact .inl ⟨_, rfl⟩
  · rcases hx with rfl | rfl <;> exact .inl ⟨_, rfl⟩
  · exact .inr ⟨_, by simp [sub], hx⟩
  · rcases hx with rfl | rfl
    · exact .inr ⟨_, by simp [sub], rfl⟩
    · exact .inr ⟨_, by simp [sub], rfl⟩
  · rcases hx with rfl | rfl
    · exact .inl ⟨_, rfl⟩
    · exact .inr ⟨_, by simp [sub], rfl⟩
theorem args_pos (s : S) : 1 ≤ (args s).length ∧ (args s).length ≤ 2 := by cases s <;> simp [args]
def tupB : PV → Bool
  | .tup _ => true
  | _ => false
theorem enc_tup (s : S) : ∃ xs, encS s = .tup xs := ⟨_, enc_args s⟩
end L2.K77

/-! K77E: sayings spoilt. Own work. -/
namespace L2.K77
open PySem L2.Iv L2.Tm L2.Sy
open L2.V (Src w_draw)
variable {cl : Str → Nat}
theorem split_at {α : Type} {ts : List α} {r : Nat} (h : r < ts.length) : ∃ a u b, ts = a ++ u :: b ∧ a.length = r :=
  ⟨ts.take r, ts[r], ts.drop (r + 1), by rw [← List.drop_eq_getElem_cons h, List.take_append_drop], by rw [List.length_take]; omega⟩
theorem smalls_mid (a b : List PV) (x : PV) : smalls (a ++ x :: b) = (smalls a && (small x && smalls b)) := by rw [smalls_app]; rfl
theorem wts_mid (a b : List PV) (x : PV) : wts (a ++ x :: b) = wts a + (wt x + wts b) := by rw [wts_app]; rfl
theorem cut_mid1 (w : Str) (a b : List PV) (u : PV) : cutP (.str w :: (a ++ u :: b)) none (some (1 + (a.length : Int))) = .str w :: a := by
  rw [show (1 : Int) + (a.length : Int) = ((a.length + 1 : Nat) : Int) by omega, cut_to, List.take_succ_cons, List.take_left' rfl]
theorem cut_mid2 (w : Str) (a b : List PV) (u : PV) : cutP (.str w :: (a ++ u :: b)) (some (1 + (a.length : Int) + 1)) none = b := by
  rw [show (1 : Int) + (a.length : Int) + 1 = ((a.length + 1 + 1 : Nat) : Int) by omega, cut_from, List.drop_succ_cons, show a ++ u :: b = (a ++ [u]) ++ b by simp]
  exact List.drop_left' (by simp)
theorem at_mid (w : Str) (a b : List PV) (u : PV) : L2.atI (.str w :: (a ++ u :: b)) (1 + (a.length : Int)) = some u := by
  rw [at_nn (by omega), show ((1 : Int) + (a.length : Int)).toNat = a.length + 1 by omega, List.getElem?_cons_succ, List.getElem?_append_right (Nat.le_refl _), Nat.sub_self]; rfl
theorem cut_last (xs : List PV) (h : 1 ≤ xs.length) : ∃ m, cutP xs none (some (-1)) = xs.take m := by
  unfold cutP
  exact ⟨_, by rw [HT.sIx_none, List.drop_zero]⟩
def restS : Sxs := (.cons (.asg (.p (.n 4)) (.call "_law_draw" (.cons (.v 0) (.cons (.c (.int 8)) .nil)))) <|
  .cons (.iff (.cmp .eq (.v 4) (.c (.int 0))) (.cons (.ret (.bi .list true (.cons (.v 2) .nil))) <|
    .nil) (.nil)) <|
  .cons (.iff (.cmp .eq (.v 4) (.c (.int 1))) (.cons (.ret (.bin .add true (.tup (.cons (.call "_law_word" (.cons (.v 0) .nil)) .nil)) (.slF true (.v 2) (.c (.int 1))))) <|
    .nil) (.nil)) <|
  .cons (.iff (.cmp .eq (.v 4) (.c (.int 2))) (.cons (.ret (.bin .add true (.v 2) (.tup (.cons (.call "_law_odd" (.cons (.v 0) (.cons (.v 1) .nil))) .nil)))) <|
    .nil) (.nil)) <|
  .cons (.iff (.cmp .eq (.v 4) (.c (.int 3))) (.cons (.ret (.slT true (.v 2) (.neg (.c (.int 1))))) <|
    .nil) (.nil)) <|
  .cons (.iff (.cmp .eq (.v 4) (.c (.int 4))) (.cons (.ret (.call "_law_odd" (.cons (.v 0) (.cons (.v 1) .nil)))) <|
    .nil) (.nil)) <|
  .cons (.iff (.cmp .eq (.v 4) (.c (.int 5))) (.cons (.ret (.bin .add true (.slT true (.v 2) (.c (.int 1))) (.slN true (.v 2)))) <|
    .nil) (.nil)) <|
  .cons (.asg (.p (.n 5)) (.bin .add true (.c (.int 1)) (.call "_law_draw" (.cons (.v 0) (.cons (.bin .sub true (.bi .len true (.cons (.v 2) .nil)) (.c (.int 1))) .nil))))) <|
  .cons (.ret (.bin .add true (.bin .add true (.slT true (.v 2) (.v 5)) (.tup (.cons (.call "_law_odd" (.cons (.v 0) (.cons (.v 1) .nil))) .nil))) (.slF true (.v 2) (.bin .add true (.v 5) (.c (.int 1)))))) <|
  .nil)
theorem w_spoilt {k : Nat} (hk : k ≤ 4) : ∀ (N m : Nat) (s : S) (c i : Nat) (xs : List PV) (st : Store) (Q : PV → Store → Prop), nd s ≤ N → N ≤ 100 → N < m → wfS k s → c + 5 * N < 10 ^ 11 → st[i]? = some xs → Src c xs →
    (∀ (v : PV) (ys : List PV), small v = true → wt v ≤ wt (encS s) + 2 → Src (c + 5 * N) ys → Q v (st.set i ys)) → wpO ((K77.sg.ctx cl (m + 3)).fn "_law_spoilt" [.loc i, .int k, encS s] st) Q := by
  intro N
  induction N with
  | zero => intro m s c i xs st Q hn; cases s <;> simp [nd] at hn <;> omega
  | succ N ih =>
    intro m s c i xs st Q hn hb hm hwf hc hi hx q
    obtain ⟨m, rfl⟩ : ∃ k, m = k + 1 := ⟨m - 1, by omega⟩
    have hsm := small_S hk s hwf
    have fr : freeAll [.int k, encS s] = true := by simp [freeAll, PV.free, free_encS]
    refine wp_fn1 at__law_spoilt rfl rfl fr hi hx.free ?_
    rw [enc_args] at q hsm ⊢
    have hsa : small (.str (hw s)) = true ∧ smalls (args s) = true := by
      have hsm : (small (.str (hw s)) && smalls (args s)) = true := hsm
      rwa [Bool.and_eq_true] at hsm
    obtain ⟨hs1, hs2⟩ := hsa
    have hty := args_ty s
    obtain ⟨l1, l2⟩ := args_pos s
    have hwt : wt (.tup (.str (hw s) :: args s)) = 2 + wts (args s) := by rw [wt, wts, wt]; omega
    rw [hwt] at q
    have hsub : ∀ t ∈ sub s, nd t ≤ N := fun t ht => by have := sub_nd ht; omega
    have hsw : ∀ t ∈ sub s, wfS k t := fun t ht => sub_wf ht hwf
    generalize hw s = w at *
    generalize args s = r at *
    have fin : ∀ (v : PV) (ys : List PV) (cc : Nat), small v = true → wt v ≤ 2 + wts r + 2 → Src cc ys → cc ≤ c + 5 * (N + 1) → freeAll ys = true ∧ ∃ v', frz 1 [ys] 64 v = some v' ∧ Q v' (st.set i ys) := fun v ys cc h1 h2 h3 h4 =>
      ⟨h3.free, v, frz_free (small_free h1), q v ys h1 h2 (h3.up h4)⟩
    simp only [f__law_spoilt, env0]
    rw [wp_ss]
    obtain ⟨P, hP⟩ : ∃ P : Nat → Bool, P = fun j => tupB ((r[j]?).getD .non) := ⟨_, rfl⟩
    have comp : ∀ (z : Store) (f : PV → Store → Out (List PV)), (∀ j < r.length, ∀ z, f (.int (1 + (j : Nat) * 1)) z = .ok (if P j = true then [.int (1 + (j : Nat) * 1)] else []) z) → compF [] f (rngL 1 1 r.length) [] z = .ok (((List.range r.length).filter P).map fun j : Nat => .int (1 + (j : Nat) * 1)) z := by
      intro z f hf
      exact comp_if (g := fun j : Nat => PV.int (1 + (j : Nat) * 1)) P (fun j : Nat => PV.int (1 + (j : Nat) * 1)) (List.range r.length) (watch_nil z) (fun j hj => hf j (List.mem_range.mp hj) z) (by rw [List.length_range]; exact Nat.le_trans l2 (by decide))
    have hlen : ((PV.str w :: r).length : Int) - 1 = r.length := by rw [List.length_cons]; omega
    have rng : ∀ z, rngV2 z (.int 1) (.int ((r.length : Int) + 1)) = .ok (rngL 1 1 r.length, []) z := fun z => by
      rw [rng2_ok (by decide) (by decide) (by omega) (by omega)]
      rw [show ((r.length : Int) + 1 - 1).toNat = r.length by omega]
    have isT : ∀ j, j < r.length → ∃ x, r[j]? = some x ∧ L2.atI (.str w :: r) (1 + (j : Int)) = some x ∧ (match (tyOfP x).bind fun U => L2.kitB U "tuple" with
        | some b => some b
        | none => none) = some (P j) ∧ (P j = true → ∃ t ∈ sub s, x = encS t) := by
      intro j hj
      have e1 : r[j]? = some r[j] := List.getElem?_eq_getElem hj
      refine ⟨r[j], e1, ?_, ?_, ?_⟩
      · rw [at_nn (by omega), show ((1 : Int) + (j : Int)).toNat = j + 1 by omega, List.getElem?_cons_succ, e1]
      · rw [hP]
        simp only [e1, Option.getD_some]
        rcases hty r[j] (List.getElem_mem _) with ⟨a, e⟩ | ⟨t, ht, e⟩
        · rw [e]; simp [tupB]
        · obtain ⟨zs, ez⟩ := enc_tup t
          rw [e, ez]; simp [tupB]
      · intro hp
        rw [hP] at hp
        simp only [e1, Option.getD_some] at hp
        rcases hty r[j] (List.getElem_mem _) with ⟨a, e⟩ | ⟨t, ht, e⟩
        · rw [e] at hp; cases hp
        · exact ⟨t, ht, e⟩
    simp [rng]
    rw [comp _ _ (fun j hj z => by
      obtain ⟨x, e1, e2, e3, e4⟩ := isT j hj
      simp [e2]
      rcases hty x (List.mem_of_getElem? e1) with ⟨a, e⟩ | ⟨t, ht, e⟩
      · subst e
        have : P j = false := by rw [hP]; simp [e1, tupB]
        simp [this]
      · obtain ⟨zs, ez⟩ := enc_tup t
        subst e
        have : P j = true := by rw [hP]; simp [e1, ez, tupB]
        simp [this, ez])]
    simp
    rw [wp_ss]
    have hLs : (List.filter P (List.range r.length)).length ≤ 2 := Nat.le_trans (List.length_filter_le _ _) (by rw [List.length_range]; exact l2)
    obtain ⟨L, hL⟩ : ∃ L, List.filter P (List.range r.length) = L := ⟨_, rfl⟩
    rw [hL] at hLs
    have hsz : ∀ n : Nat, n ≤ 10 → n ≤ sizeLine := fun n h => Nat.le_trans h (by decide)
    have leaf : ∀ (cc : Nat) (ys : List PV), Src cc ys → cc ≤ c + 1 → wpO (evSs (K77.sg.ctx cl (m + 3)) restS [some (.loc 0), some (.int k), some (.tup (.str w :: r)), some (.lsv (List.map (fun j : Nat => PV.int (1 + (j : Int))) L)), none, none] [ys]) fun f s2 => ∃ ys, s2[0]? = some ys ∧ freeAll ys = true ∧ match f with
        | .rt v => ∃ v', frz 1 s2 64 v = some v' ∧ Q v' (st.set i ys)
        | .nx _ => Q .non (st.set i ys)
        | _ => False := by
      intro cc ys hy hcc
      unfold restS
      rw [wp_ss]
      simp
      refine wpX_of_wp (w_draw (n := m + 1) aD aM rfl hy (by omega) (by decide) (by decide) fun way ys w0 w1 hy => ?_)
      have ways : way = 0 ∨ way = 1 ∨ way = 2 ∨ way = 3 ∨ way = 4 ∨ way = 5 ∨ way = 6 ∨ way = 7 := by omega
      have lastW : ∀ way : Int, wpO (evSs (K77.sg.ctx cl (m + 3)) (.cons (.asg (.p (.n 5)) (.bin .add true (.c (.int 1)) (.call "_law_draw" (.cons (.v 0) (.cons (.bin .sub true (.bi .len true (.cons (.v 2) .nil)) (.c (.int 1))) .nil))))) <|
          .cons (.ret (.bin .add true (.bin .add true (.slT true (.v 2) (.v 5)) (.tup (.cons (.call "_law_odd" (.cons (.v 0) (.cons (.v 1) .nil))) .nil))) (.slF true (.v 2) (.bin .add true (.v 5) (.c (.int 1)))))) <|
          .nil) [some (.loc 0), some (.int k), some (.tup (.str w :: r)), some (.lsv (List.map (fun j : Nat => PV.int (1 + (j : Int))) L)), some (.int way), none] [ys]) fun f s2 => ∃ ys, s2[0]? = some ys ∧ freeAll ys = true ∧ match f with
            | .rt v => ∃ v', frz 1 s2 64 v = some v' ∧ Q v' (st.set i ys)
            | .nx _ => Q .non (st.set i ys)
            | _ => False := by
        intro way
        rw [wp_ss]
        simp
        refine wpX_of_wp (w_draw (n := m + 1) aD aM rfl hy (by omega) (by omega) (by omega) fun a zs a0 a1 hz => ?_)
        obtain ⟨p, u, b, rfl, hp⟩ := split_at (show a.toNat < r.length by omega)
        have ha : a = (p.length : Int) := by omega
        subst ha
        simp
        rw [wp_ss]
        simp [cut_mid1, cut_mid2]
        refine wpX_of_wp (w_odd (n := m) hk rfl hz (by omega) fun v us h1 h2 hu => ?_)
        rw [List.length_append, List.length_cons] at l2
        simp [cut_mid2]
        rw [smalls_mid, Bool.and_eq_true, Bool.and_eq_true] at hs2
        rw [wts_mid] at fin
        refine ⟨hsz _ (by omega), hsz _ (by omega), ?_⟩
        refine fin (.tup (.str w :: (p ++ v :: b))) us (cc + 1 + 1 + 1) ?_ ?_ hu (by omega)
        · show (small (.str w) && smalls (p ++ v :: b)) = true
          rw [smalls_mid, hs1, hs2.1, h1, hs2.2.2]; rfl
        · have := wt_pos u
          show 1 + (1 + wts (p ++ v :: b)) ≤ _
          rw [wts_mid]; omega
      rcases ways with rfl | rfl | rfl | rfl | rfl | rfl | rfl | rfl
      · simp
        rw [wp_ss]
        simp
        rw [wp_ss]
        simp
        refine fin (.lsv (.str w :: r)) ys (cc + 1) ?_ ?_ hy (by omega)
        · show (small (.str w) && smalls r) = true
          rw [hs1, hs2]; rfl
        · show 1 + (1 + wts r) ≤ _; omega
      · simp
        rw [wp_ss]
        simp
        rw [wp_ss]
        simp
        rw [wp_ss]
        simp
        refine wpX_of_wp (w_word (n := m) rfl hy (by omega) fun v us h1 h2 hu => ?_)
        simp
        refine ⟨hsz _ (by omega), ?_⟩
        refine fin (.tup (v :: r)) us (cc + 1 + 1) ?_ ?_ hu (by omega)
        · show (small v && smalls r) = true
          rw [h1, hs2]; rfl
        · show 1 + (wt v + wts r) ≤ _; omega
      · simp
        rw [wp_ss]
        simp
        rw [wp_ss]
        simp
        rw [wp_ss]
        simp
        rw [wp_ss]
        simp
        refine wpX_of_wp (w_odd (n := m) hk rfl hy (by omega) fun v us h1 h2 hu => ?_)
        simp
        refine ⟨hsz _ (by omega), ?_⟩
        refine fin (.tup (.str w :: (r ++ [v]))) us (cc + 1 + 1) ?_ ?_ hu (by omega)
        · show (small (.str w) && smalls (r ++ [v])) = true
          rw [smalls_app, hs1, hs2]
          show (true && (true && (small v && true))) = true
          rw [h1]; rfl
        · show 1 + (1 + wts (r ++ [v])) ≤ _
          rw [wts_app]
          show 1 + (1 + (wts r + (wt v + 0))) ≤ _
          omega
      · obtain ⟨mm, hmm⟩ := cut_last (.str w :: r) (by simp)
        simp
        rw [wp_ss]
        simp
        rw [wp_ss]
        simp
        rw [wp_ss]
        simp
        rw [wp_ss]
        simp
        rw [wp_ss]
        simp [hmm]
        refine fin (.tup ((PV.str w :: r).take mm)) ys (cc + 1) ?_ ?_ hy (by omega)
        · exact smalls_sub (l := .str w :: r) (by show (small (.str w) && smalls r) = true; rw [hs1, hs2]; rfl) fun x hx => List.mem_of_mem_take hx
        · have := wts_cut mm (.str w :: r)
          have e : wts (.str w :: r) = 1 + wts r := rfl
          show 1 + wts ((PV.str w :: r).take mm) ≤ _
          omega
      · simp
        iterate 4 (rw [wp_ss]; simp)
        rw [wp_ss]
        simp
        rw [wp_ss]
        simp
        refine wpX_of_wp (w_odd (n := m) hk rfl hy (by omega) fun v us h1 h2 hu => ?_)
        simp
        exact fin v us (cc + 1 + 1) h1 (by omega) hu (by omega)
      · simp
        iterate 5 (rw [wp_ss]; simp)
        rw [wp_ss]
        simp
        rw [wp_ss]
        have c1 : cutP (.str w :: r) none (some 1) = [.str w] := by
          rw [show (1 : Int) = ((1 : Nat) : Int) from rfl, cut_to]; rfl
        simp [c1, backN]
        refine ⟨hsz _ (by omega), ?_⟩
        refine fin (.tup (.str w :: r.reverse)) ys (cc + 1) ?_ ?_ hy (by omega)
        · show (small (.str w) && smalls r.reverse) = true
          rw [hs1, smalls_sub hs2 fun x hx => List.mem_reverse.mp hx]; rfl
        · show 1 + (1 + wts r.reverse) ≤ _
          rw [wts_rev]; omega
      · simp
        iterate 6 (rw [wp_ss]; simp)
        exact lastW 6
      · simp
        iterate 6 (rw [wp_ss]; simp)
        exact lastW 7
    rw [hL]
    have finish : ∀ {o : Out Fl}, wpO o (fun f s2 => ∃ ys, s2[0]? = some ys ∧ freeAll ys = true ∧ match f with
        | .rt v => ∃ v', frz 1 s2 64 v = some v' ∧ Q v' (st.set i ys)
        | .nx _ => Q .non (st.set i ys)
        | _ => False) → wpO o (fun f s2 => ∃ ys, s2[0]? = some ys ∧ freeAll ys = true ∧ match f with
        | .rt v => ∃ v', frz 1 s2 64 v = some v' ∧ Q v' (st.set i ys)
        | .nx _ => Q .non (st.set i ys)
        | _ => False) := fun h => h
    have memL : ∀ j ∈ L, j < r.length ∧ P j = true := fun j hj => by
      rw [← hL, List.mem_filter, List.mem_range] at hj
      exact hj
    cases L with
    | nil =>
      simp
      exact finish (leaf c xs hx (by omega))
    | cons j0 L0 =>
      have hpos : (0 : Int) < (L0.length : Int) + 1 := by omega
      simp [hpos]
      refine wpX_of_wp (w_draw (n := m + 1) aD aM rfl hx (by omega) (by decide) (by decide) fun t ys t0 t1 hy => ?_)
      by_cases ht : 0 < t
      · simp [ht]
        rw [wp_ss]
        simp
        rw [List.length_cons] at hLs
        refine wpX_of_wp (w_draw (n := m + 1) aD aM rfl hy (by omega) (by omega) (by omega) fun d zs d0 d1 hz => ?_)
        obtain ⟨j, hj, ej⟩ : ∃ j ∈ j0 :: L0, L2.atI (PV.int (1 + (j0 : Int)) :: L0.map fun j : Nat => PV.int (1 + (j : Int))) d = some (.int (1 + (j : Int))) := by
          obtain ⟨v, hv, e⟩ := pick (l := (j0 :: L0).map fun j : Nat => PV.int (1 + (j : Int))) (r := d) d0 (by rw [List.length_map, List.length_cons]; omega)
          obtain ⟨j, hj, rfl⟩ := List.mem_map.mp hv
          exact ⟨j, hj, e⟩
        obtain ⟨hj1, hj2⟩ := memL j hj
        obtain ⟨x, e1, e2, e3, e4⟩ := isT j hj1
        obtain ⟨tt, htt, rfl⟩ := e4 hj2
        obtain ⟨p, u, b, rfl, hp⟩ := split_at hj1
        have hu : u = encS tt := by
          rw [← hp, List.getElem?_append_right (Nat.le_refl _), Nat.sub_self] at e1
          exact Option.some.inj e1
        subst hu
        subst hp
        simp [ej]
        rw [wp_ss]
        simp [cut_mid1, at_mid]
        refine wpX_of_wp (ih m tt (c + 1 + 1) 0 zs [zs] _ (hsub tt htt) (by omega) (by omega) (hsw tt htt) (by omega) rfl hz fun v us h1 h2 hu => ?_)
        rw [List.length_append, List.length_cons] at l2
        simp [cut_mid2]
        rw [smalls_mid, Bool.and_eq_true, Bool.and_eq_true] at hs2
        rw [wts_mid] at fin
        refine ⟨hsz _ (by omega), hsz _ (by omega), ?_⟩
        refine fin (.tup (.str w :: (p ++ v :: b))) us (c + 1 + 1 + 5 * N) ?_ ?_ hu (by omega)
        · show (small (.str w) && smalls (p ++ v :: b)) = true
          rw [smalls_mid, hs1, hs2.1, h1, hs2.2.2]; rfl
        · show 1 + (1 + wts (p ++ v :: b)) ≤ _
          rw [wts_mid]; omega
      · simp [ht]
        exact finish (leaf (c + 1) ys hy (Nat.le_refl _))
end L2.K77

/-! K77F: the law's own look at sayings. Own work. -/
namespace L2.K77
open L2.Tm hiding headOk
open PySem hiding upTo
open L2.Iv L2.Sy
variable {cl : Str → Nat}
@[simp] theorem lt3 {α : Type} (l : List α) : ((l.length : Int) + 1 + 1 + 1 < 2) = False := eq_false (by omega)
@[simp] theorem lt4 {α : Type} (l : List α) : ((l.length : Int) + 1 + 1 + 1 + 1 < 2) = False := eq_false (by omega)
theorem e_below {n : Nat} {st : Store} {v : PV} {m : Int} (hv : v.data = true) : (K77.sg.ctx cl (n + 1)).fn "_law_below" [v, .int m] st = .ok (.bl (upTo (m - 1) v)) st := by
  refine fn_eq at__law_below rfl rfl (by simp [freeAll, data_free v hv, PV.free]) ?_
  simp only [f__law_below, env0]
  cases v <;> first | (cases hv; done) | skip
  case int i =>
    have e : upTo (m - 1) (.int i) = decide (0 ≤ i ∧ i < m) := decide_eq_decide.mpr ⟨fun h => ⟨h.1, by omega⟩, fun h => ⟨h.1, by omega⟩⟩
    rw [e]
    by_cases h : 0 ≤ i
    · simp [wp_ss, h]
    · simp [wp_ss, h]
  all_goals simp [wp_ss, upTo]
theorem dat2 {a b : PV} {r : List PV} (h : dataAll (a :: b :: r) = true) : a.data = true ∧ b.data = true := by
  have h : (a.data && (b.data && dataAll r)) = true := h
  simp only [Bool.and_eq_true] at h
  exact ⟨h.1, h.2.1⟩
theorem e_right {k : Int} : ∀ (n : Nat) (v : PV), wt v ≤ n → v.data = true → ∀ st, (K77.sg.ctx cl (n + 2)).fn "_law_is_right" [.int k, v] st = .ok (.bl (isSay k v)) st := by
  intro n
  induction n with
  | zero => intro v h; have := wt_pos v; omega
  | succ n ih =>
    intro v hn hv st
    refine fn_eq at__law_is_right rfl rfl (by simp [freeAll, data_free v hv, PV.free]) ?_
    simp only [f__law_is_right, env0]
    rw [say_must]
    cases v <;> first | (cases hv; done) | skip
    case tup xs =>
      match xs, hn, hv with
      | [], hn, hv => simp [wp_ss, must]
      | [.str w], hn, hv =>
        have : headOk k (kind w) [] = false := by
          rcases kind_inv w with ⟨hk, e⟩ | ⟨hk, e⟩ | ⟨hk, e⟩ | ⟨hk, e⟩ | ⟨hk, e⟩ | ⟨hk, e⟩ | hk <;> (rw [hk]; rfl)
        simp [wp_ss, must, this]
      | .str w :: a :: r, hn, hv =>
        have hq : (true && dataAll (a :: r)) = true := hv
        rw [Bool.true_and] at hq
        have ha : a.data = true := by
          have hz : (a.data && dataAll r) = true := hq
          rw [Bool.and_eq_true] at hz
          exact hz.1
        rw [wt, wts, wts, wt] at hn
        have eb := fun (v : PV) (m : Int) (hv : v.data = true) st => e_below (cl := cl) (n := n + 1) (st := st) (v := v) (m := m) hv
        have ra := ih a (by omega) ha
        have l2 : ¬ ((r.length : Int) + 1 + 1 < 2) := by omega
        rcases kind_inv w with ⟨hk, e⟩ | ⟨hk, e⟩ | ⟨hk, e⟩ | ⟨hk, e⟩ | ⟨hk, e⟩ | ⟨hk, e⟩ | hk
        · subst e
          match r with
          | [] => simp [wp_ss, must, hk, headOk, subs, isSs, ra]
          | b :: r => simp [wp_ss, must, hk, headOk, subs, isSs]
        · have n0 : (w == ("not" : Str)) = false := by rcases e with rfl | rfl <;> simp
          match r, hq, hn with
          | [], hq, hn => simp [wp_ss, must, hk, headOk, n0, e]
          | [b], hq, hn =>
            obtain ⟨_, hb⟩ := dat2 hq
            have rb := ih b (by simp [wts] at hn; omega) hb
            cases hsa : isSay k a <;> simp [wp_ss, must, hk, headOk, subs, isSs, n0, e, ra, rb, hsa]
          | b :: c :: r, hq, hn => simp [wp_ss, must, hk, headOk, n0, e]
        · have n0 : (w == ("not" : Str)) = false := by rcases e with rfl | rfl | rfl | rfl <;> simp
          have n1 : ¬ (w = ("both" : Str) ∨ w = ("either" : Str)) := by rcases e with rfl | rfl | rfl | rfl <;> simp
          match r, hq, hn with
          | [], hq, hn => cases hs : upTo 2 a <;> simp [wp_ss, must, hk, headOk, n0, n1, e, eb a 3 ha, hs]
          | [b], hq, hn =>
            obtain ⟨_, hb⟩ := dat2 hq
            have rb := ih b (by simp [wts] at hn; omega) hb
            cases hs : upTo 2 a <;> simp [wp_ss, must, hk, headOk, subs, isSs, n0, n1, e, eb a 3 ha, hs, rb]
          | b :: c :: r, hq, hn => cases hs : upTo 2 a <;> simp [wp_ss, must, hk, headOk, n0, n1, e, eb a 3 ha, hs]
        · have n0 : (w == ("not" : Str)) = false := by rcases e with rfl | rfl <;> simp
          have n1 : ¬ (w = ("both" : Str) ∨ w = ("either" : Str)) := by rcases e with rfl | rfl <;> simp
          have n2 : ¬ (w = ("some" : Str) ∨ w = ("every" : Str) ∨ w = ("someone" : Str) ∨ w = ("each" : Str)) := by rcases e with rfl | rfl <;> simp
          match r, hq, hn with
          | [], hq, hn => cases hs : upTo 2 a <;> simp [wp_ss, must, hk, headOk, subs, isSs, n0, n1, n2, e, eb a 3 ha, hs]
          | b :: r, hq, hn => cases hs : upTo 2 a <;> simp [wp_ss, must, hk, headOk, n0, n1, n2, e, eb a 3 ha, hs]
        · subst e
          match r, hq, hn with
          | [], hq, hn => cases hs : upTo 2 a <;> simp [wp_ss, must, hk, headOk, eb a 3 ha, hs]
          | [b], hq, hn =>
            obtain ⟨_, hb⟩ := dat2 hq
            cases hs : upTo 2 a <;> cases hs2 : upTo (k - 1) b <;> simp [wp_ss, must, hk, headOk, subs, isSs, eb a 3 ha, eb b k hb, hs, hs2]
          | b :: c :: r, hq, hn => cases hs : upTo 2 a <;> simp [wp_ss, must, hk, headOk, eb a 3 ha, hs]
        · have n0 : (w == ("not" : Str)) = false := by rcases e with rfl | rfl | rfl <;> simp
          have n1 : ¬ (w = ("both" : Str) ∨ w = ("either" : Str)) := by rcases e with rfl | rfl | rfl <;> simp
          have n2 : ¬ (w = ("some" : Str) ∨ w = ("every" : Str) ∨ w = ("someone" : Str) ∨ w = ("each" : Str)) := by rcases e with rfl | rfl | rfl <;> simp
          have n3 : ¬ (w = ("empty" : Str) ∨ w = ("one" : Str)) := by rcases e with rfl | rfl | rfl <;> simp
          have n4 : (w == ("has" : Str)) = false := by rcases e with rfl | rfl | rfl <;> simp
          match r, hq, hn with
          | [], hq, hn => cases hs : upTo 2 a <;> simp [wp_ss, must, hk, headOk, n0, n1, n2, n3, eb a 3 ha, hs]
          | [b], hq, hn =>
            obtain ⟨_, hb⟩ := dat2 hq
            cases hs : upTo 2 a <;> cases hs2 : upTo 2 b <;> simp [wp_ss, must, hk, headOk, subs, isSs, n0, n1, n2, n3, n4, e, eb a 3 ha, eb b 3 hb, hs, hs2]
          | b :: c :: r, hq, hn => cases hs : upTo 2 a <;> simp [wp_ss, must, hk, headOk, n0, n1, n2, n3, eb a 3 ha, hs]
        · have hall : ¬ w = ("not" : Str) ∧ ¬ (w = ("both" : Str) ∨ w = ("either" : Str)) ∧ ¬ (w = ("some" : Str) ∨ w = ("every" : Str) ∨ w = ("someone" : Str) ∨ w = ("each" : Str)) ∧ ¬ (w = ("empty" : Str) ∨ w = ("one" : Str)) ∧ ¬ w = ("has" : Str) ∧ ¬ (w = ("in" : Str) ∨ w = ("before" : Str) ∨ w = ("next" : Str)) := by
            refine ⟨fun e => ?_, fun e => ?_, fun e => ?_, fun e => ?_, fun e => ?_, fun e => ?_⟩
            · subst e; exact absurd hk (by decide +kernel)
            · rcases e with rfl | rfl <;> exact absurd hk (by decide +kernel)
            · rcases e with rfl | rfl | rfl | rfl <;> exact absurd hk (by decide +kernel)
            · rcases e with rfl | rfl <;> exact absurd hk (by decide +kernel)
            · subst e; exact absurd hk (by decide +kernel)
            · rcases e with rfl | rfl | rfl <;> exact absurd hk (by decide +kernel)
          obtain ⟨m0, n1, n2, n3, m4, n5⟩ := hall
          have n0 : (w == ("not" : Str)) = false := by simpa using m0
          have n4 : (w == ("has" : Str)) = false := by simpa using m4
          have hh : headOk k (kind w) (a :: r) = false := by rw [hk]; unfold headOk; split <;> first | rfl | (rename_i z; omega) | simp_all
          match r, hq, hn with
          | [], hq, hn => cases hs : upTo 2 a <;> simp [wp_ss, must, hh, n0, n1, n2, n3, eb a 3 ha, hs]
          | [b], hq, hn => cases hs : upTo 2 a <;> simp [wp_ss, must, hh, n0, n1, n2, n3, n4, n5, eb a 3 ha, hs]
          | b :: c :: r, hq, hn => cases hs : upTo 2 a <;> simp [wp_ss, must, hh, n0, n1, n2, n3, eb a 3 ha, hs]
      | .int _ :: b, hn, hv => cases b <;> simp [wp_ss, must]
      | .non :: b, hn, hv => cases b <;> simp [wp_ss, must]
      | .bl _ :: b, hn, hv => cases b <;> simp [wp_ss, must]
      | .tup _ :: b, hn, hv => cases b <;> simp [wp_ss, must]
      | .lsv _ :: b, hn, hv => cases b <;> simp [wp_ss, must]
    all_goals simp [wp_ss, must]
end L2.K77

/-! K77G: the law's free sets and parts. Own work. -/
namespace L2.K77
open L2.Tm hiding headOk
open PySem hiding upTo
open L2.Iv L2.Sy
variable {cl : Str → Nat}
theorem named_len : ∀ s : S, (named s).length ≤ 2 * nd s
  | .a1 _ a => by simp [named, nd]
  | .a2 _ a b => by simp [named, nd]
  | .has a _ => by simp [named, nd]
  | .neg s => by have := named_len s; rw [named, nd]; omega
  | .two _ s t => by have := named_len s; have := named_len t; rw [named, nd, List.length_append]; omega
  | .qu _ a s => by
    have := named_len s
    have := List.length_filter_le (fun x : Int => x != (a : Int)) (named s)
    rw [named, nd]; omega
theorem frz_il (z : Store) (ns : List Int) : frz 0 z 64 (.lsv (ns.map PV.int)) = some (.lsv (ns.map PV.int)) := frz_free (L2.V.free_ints ns)
theorem e_named {k : Nat} : ∀ (n : Nat) (s : S), nd s ≤ n → nd s ≤ 1000 → wfS k s → ∀ st, (K77.sg.ctx cl (n + 1)).fn "_law_named" [encS s] st = .ok (.lsv ((named s).map PV.int)) st := by
  have big : 4000 ≤ sizeLine := by decide
  intro n
  induction n with
  | zero => intro s hn; cases s <;> simp [nd] at hn <;> omega
  | succ n ih =>
    intro s hn h1 w st
    refine fn_eq at__law_named rfl rfl (by simp [freeAll, free_encS]) ?_
    simp only [f__law_named, env0]
    cases s with
    | a1 w' a =>
      have f := frz_il [] [(a : Int)]
      simp only [List.map_cons, List.map_nil] at f
      rcases w.1 with rfl | rfl <;> simp [wp_ss, encS, named, f]
    | a2 w' a b =>
      have f := frz_il [] [(a : Int), b]
      simp only [List.map_cons, List.map_nil] at f
      rcases w.1 with rfl | rfl | rfl <;> simp [wp_ss, encS, named, f]
    | has a b =>
      have f := frz_il [] [(a : Int)]
      simp only [List.map_cons, List.map_nil] at f
      simp [wp_ss, encS, named, f]
    | neg s' =>
      rw [nd] at hn h1
      simp [wp_ss, encS, named, ih s' (by omega) (by omega) w, frz_il]
    | two w' s' t' =>
      rw [nd] at hn h1
      have l1 := named_len s'
      have l2 := named_len t'
      have f := frz_il [] (named s' ++ named t')
      rw [List.map_append] at f
      rcases w.1 with rfl | rfl <;> (simp [wp_ss, encS, named, ih s' (by omega) (by omega) w.2.1, ih t' (by omega) (by omega) w.2.2, f]; omega)
    | qu w' a s' =>
      rw [nd] at hn h1
      have l1 := named_len s'
      have hw := w.1
      have n1 : ¬ (w' = ("empty" : Str) ∨ w' = ("one" : Str) ∨ w' = ("has" : Str)) := by rcases hw with rfl | rfl | rfl | rfl <;> simp
      have n2 : ¬ (w' = ("in" : Str) ∨ w' = ("before" : Str) ∨ w' = ("next" : Str)) := by rcases hw with rfl | rfl | rfl | rfl <;> simp
      have n3 : (w' == ("not" : Str)) = false := by rcases hw with rfl | rfl | rfl | rfl <;> simp
      have n4 : ¬ (w' = ("both" : Str) ∨ w' = ("either" : Str)) := by rcases hw with rfl | rfl | rfl | rfl <;> simp
      have f := frz_il [] ((named s').filter fun x => x != (a : Int))
      simp only [encS]
      rw [wp_ss]
      simp [n1]
      rw [wp_ss]
      simp [n2]
      rw [wp_ss]
      simp [n3]
      rw [wp_ss]
      simp [n4]
      rw [wp_ss]
      simp [ih s' (by omega) (by omega) w.2.2]
      rw [comp_if (p := fun x : Int => x != (a : Int)) (o := PV.int) (named s') (by simp) (fun x hx => by
        by_cases hb : x = (a : Int)
        · subst hb; simp
        · have hb2 : (x == (a : Int)) = false := by simpa using hb
          simp [hb, hb2]) (by omega)]
      simp [f, named]
theorem in_ints {st : Store} {x : Int} : ∀ (ns : List Int), cmpV .isin st (.int x) (.lsv (ns.map PV.int)) = some (decide (x ∈ ns)) := by
  intro ns
  have hf : (ns.map PV.int).all flatP = true := by
    rw [List.all_eq_true]
    intro y hy
    obtain ⟨z, _, rfl⟩ := List.mem_map.mp hy
    rfl
  have hi : inP (.int x) (ns.map PV.int) = decide (x ∈ ns) := by
    unfold inP
    rw [Bool.eq_iff_iff, List.any_eq_true, decide_eq_true_eq]
    constructor
    · rintro ⟨y, hy, e⟩
      obtain ⟨z, hz, rfl⟩ := List.mem_map.mp hy
      have e : (z == x) = true := e
      rw [← eq_of_beq e]; exact hz
    · exact fun h => ⟨.int x, List.mem_map.mpr ⟨x, h, rfl⟩, by show (x == x) = true; simp⟩
  show (match seqA st (.lsv (ns.map PV.int)) with
    | some xs => if flatP (.int x) = true ∧ xs.all flatP = true then some (inP (.int x) xs) else none
    | none => none) = _
  rw [seqA_lsv]
  show (if flatP (.int x) = true ∧ (ns.map PV.int).all flatP = true then some (inP (.int x) (ns.map PV.int)) else none) = _
  rw [if_pos ⟨rfl, hf⟩, hi]
theorem e_lfree {k n : Nat} {st : Store} {s : S} (hn : nd s ≤ n) (h1 : nd s ≤ 1000) (w : wfS k s) : (K77.sg.ctx cl (n + 2)).fn "_law_free" [encS s] st = .ok (.tup ((frees s).map PV.int)) st := by
  have en := e_named (cl := cl) n s hn h1 w
  refine fn_eq at__law_free rfl rfl (by simp [freeAll, free_encS]) ?_
  simp only [f__law_free, env0]
  rw [wp_ss]
  simp [en]
  rw [wp_ss]
  simp [rng1_ok (j := 3) (by decide) (by decide)]
  have cc := comp_if (g := fun i : Nat => PV.int (0 + (i : Nat) * 1)) (w := []) (st := []) (f := fun x st => match asgP (.n 2) x (wipeE [some (encS s), some (.lsv ((named s).map PV.int)), none] [2]) with
    | some env1 => (evTests (K77.sg.ctx cl (n + 1)) (.cons (.cmp .isin (.v 2) (.v 1)) .nil) env1 st).quiet.bind fun b st1 => if b = true then (evE (K77.sg.ctx cl (n + 1)) (.v 2) env1 st1).quiet.bind fun y st2 => .ok [y] st2 else .ok [] st1
    | none => .bad) (fun i : Nat => decide (((i : Nat) : Int) ∈ named s)) (fun i : Nat => PV.int (0 + (i : Nat) * 1)) (List.range 3) (by simp) (fun i _ => by
      by_cases hm : ((i : Nat) : Int) ∈ named s
      · simp [in_ints, hm]
      · simp [in_ints, hm]) (by show 3 ≤ sizeLine; decide)
  have fl := frees_law w
  have e0 : [(0 : Int), 1, 2] = (List.range 3).map fun i : Nat => (i : Int) := rfl
  rw [e0, List.filter_map] at fl
  have e1 : (((List.range 3).filter fun i : Nat => decide (((i : Nat) : Int) ∈ named s)).map fun i : Nat => PV.int (0 + (i : Nat) * 1)) = (frees s).map PV.int := by
    rw [← fl, List.map_map]
    refine List.map_congr_left fun i _ => ?_
    show PV.int (0 + (i : Int) * 1) = PV.int (i : Int)
    rw [show (0 : Int) + (i : Int) * 1 = i by omega]
  rw [e1] at cc
  have cc2 : compF [] (fun x st => match asgP (.n 2) x (wipeE [some (encS s), some (.lsv ((named s).map PV.int)), none] [2]) with
    | some env1 => (evTests (K77.sg.ctx cl (n + 1)) (.cons (.cmp .isin (.v 2) (.v 1)) .nil) env1 st).quiet.bind fun b st1 => if b = true then (evE (K77.sg.ctx cl (n + 1)) (.v 2) env1 st1).quiet.bind fun y st2 => .ok [y] st2 else .ok [] st1
    | none => .bad) (rngL 0 1 3) [] [] = .ok ((frees s).map PV.int) [] := cc
  simp at cc2
  rw [cc2]
  simp [frz_ints]
def isT (v : PV) : Bool := tupB v
theorem e_lparts {k : Nat} : ∀ (n : Nat) (s : S), nd s ≤ n → nd s ≤ 1000 → wfS k s → ∀ st, (K77.sg.ctx cl (n + 1)).fn "_law_parts" [encS s] st = .ok (.lsv ((prts s).map encS)) st := by
  have big : 4000 ≤ sizeLine := by decide
  have frl : ∀ (z : Store) (us : List S), frz 0 z 64 (.lsv (us.map encS)) = some (.lsv (us.map encS)) := fun z us => frz_free (by
    show freeAll (us.map encS) = true
    rw [freeAll_all, List.all_eq_true]
    intro x hx
    obtain ⟨s, _, rfl⟩ := List.mem_map.mp hx
    exact free_encS s)
  intro n
  induction n with
  | zero => intro s hn; cases s <;> simp [nd] at hn <;> omega
  | succ n ih =>
    intro s hn h1 w st
    refine fn_eq at__law_parts rfl rfl (by simp [freeAll, free_encS]) ?_
    simp only [f__law_parts, env0]
    rw [wp_ss]
    simp
    rw [wp_ss, r_sfr]
    have f := frl [] (prts s)
    have ty : ∀ u : S, tyOfP (encS u) = some "tuple" := fun u => by obtain ⟨xs, e⟩ := enc_tup u; rw [e]; rfl
    cases s with
    | a1 w' a =>
      simp [encS, loopF]
      simp only [prts, List.map_cons, List.map_nil, encS] at f
      simp [wp_ss, prts, encS, f]
    | a2 w' a b =>
      simp [encS, loopF]
      simp only [prts, List.map_cons, List.map_nil, encS] at f
      simp [wp_ss, prts, encS, f]
    | has a b =>
      simp [encS, loopF]
      simp only [prts, List.map_cons, List.map_nil, encS] at f
      simp [wp_ss, prts, encS, f]
    | neg s' =>
      rw [nd] at hn h1
      have hp := prts_len s'
      have hi := ih s' (by omega) (by omega) w
      simp only [prts, List.map_append, List.map_cons, List.map_nil, encS] at f
      have s1 : (prts s').length + 1 ≤ sizeLine := by omega
      have s2 : (prts s').length ≤ sizeLine := by omega
      simp [encS, loopF, wp_ss, ty, hi, prts, f, s1, s2]
    | two w' s' t' =>
      rw [nd] at hn h1
      have hp := prts_len s'
      have hp2 := prts_len t'
      have hi := ih s' (by omega) (by omega) w.2.1
      have hi2 := ih t' (by omega) (by omega) w.2.2
      simp only [prts, List.map_append, List.map_cons, List.map_nil, encS, List.append_assoc] at f
      have s1 : (prts s').length + ((prts t').length + 1) ≤ sizeLine := by omega
      have s2 : (prts s').length + (prts t').length ≤ sizeLine := by omega
      have s3 : (prts s').length + (prts t').length + 1 ≤ sizeLine := by omega
      have s4 : (prts s').length ≤ sizeLine := by omega
      simp [encS, loopF, wp_ss, ty, hi, hi2, prts, f, s1, s2, s3, s4]
    | qu w' a s' =>
      rw [nd] at hn h1
      have hp := prts_len s'
      have hi := ih s' (by omega) (by omega) w.2.2
      simp only [prts, List.map_append, List.map_cons, List.map_nil, encS] at f
      have s1 : (prts s').length + 1 ≤ sizeLine := by omega
      have s2 : (prts s').length ≤ sizeLine := by omega
      simp [encS, loopF, wp_ss, ty, hi, prts, f, s1, s2]
end L2.K77

/-! K77H: the doors, and what the law is told. Own work. -/
namespace L2.K77
open L2.Tm hiding headOk
open PySem hiding upTo
open L2.Iv L2.Sy
variable {cl : Str → Nat}
theorem hsy : HasSy sg := ⟨at_is_integer, at_is_between, at_is_set_name, at_are_names, at_must_be, at_is_saying_of, rfl, rfl, rfl, rfl, rfl⟩
theorem hsf : HasF sg := ⟨at_inner_parts, at_is_atom, at_free_of, at_parts_of, rfl, rfl⟩
theorem eqv_pair {st : Store} {a b : Str} (ha : PyData.strOk a = true) (hb : PyData.strOk b = true) : eqvV st (.tup [.str a, .str b]) (.tup [.str a, .str b]) = some true := by
  show eqvD (.tup [.str a, .str b]) (.tup [.str a, .str b]) = some true
  unfold eqvD
  have hs : SeqAt.shaped (PV.tup [PV.str a, PV.str b]).toD = true := by
    obtain ⟨_, h2, h3⟩ := fit_ok (.tup [.str a, .str b]) 64 (by show (fit 63 (.str a) && (fit 63 (.str b) && true)) = true; rw [fit_str, fit_str, ha, hb]; rfl)
    unfold SeqAt.shaped
    rw [h2, decide_eq_true h3]; rfl
  rw [if_pos ⟨rfl, rfl, hs, hs⟩]
  show some ((a == a) && ((b == b) && true)) = some true
  simp
theorem nd_wt : ∀ s : S, nd s ≤ wt (encS s)
  | .a1 w a => by show 1 ≤ 1 + _; omega
  | .a2 w a b => by show 1 ≤ 1 + _; omega
  | .has a b => by show 1 ≤ 1 + _; omega
  | .neg s => by have := nd_wt s; show 1 + nd s ≤ 1 + (1 + (wt (encS s) + 0)); omega
  | .two w s t => by have := nd_wt s; have := nd_wt t; show 1 + nd s + nd t ≤ 1 + (1 + (wt (encS s) + (wt (encS t) + 0))); omega
  | .qu w a s => by have := nd_wt s; show 1 + nd s ≤ 1 + (1 + (1 + (wt (encS s) + 0))); omega
theorem prts_wt : ∀ (s p : S), p ∈ prts s → wt (encS p) ≤ wt (encS s)
  | .a1 w a, p, h => by rw [prts, List.mem_singleton] at h; subst h; exact Nat.le_refl _
  | .a2 w a b, p, h => by rw [prts, List.mem_singleton] at h; subst h; exact Nat.le_refl _
  | .has a b, p, h => by rw [prts, List.mem_singleton] at h; subst h; exact Nat.le_refl _
  | .neg s, p, h => by
    rw [prts, List.mem_append, List.mem_singleton] at h
    rcases h with h | rfl
    · have := prts_wt s p h; show _ ≤ 1 + (1 + (wt (encS s) + 0)); omega
    · exact Nat.le_refl _
  | .two w s t, p, h => by
    rw [prts, List.mem_append, List.mem_append, List.mem_singleton] at h
    rcases h with (h | h) | rfl
    · have := prts_wt s p h; show _ ≤ 1 + (1 + (wt (encS s) + (wt (encS t) + 0))); omega
    · have := prts_wt t p h; show _ ≤ 1 + (1 + (wt (encS s) + (wt (encS t) + 0))); omega
    · exact Nat.le_refl _
  | .qu w a s, p, h => by
    rw [prts, List.mem_append, List.mem_singleton] at h
    rcases h with h | rfl
    · have := prts_wt s p h; show _ ≤ 1 + (1 + (1 + (wt (encS s) + 0))); omega
    · exact Nat.le_refl _
theorem prts_wf {k : Nat} : ∀ (s p : S), wfS k s → p ∈ prts s → wfS k p
  | .a1 w a, p, h0, h => by rw [prts, List.mem_singleton] at h; subst h; exact h0
  | .a2 w a b, p, h0, h => by rw [prts, List.mem_singleton] at h; subst h; exact h0
  | .has a b, p, h0, h => by rw [prts, List.mem_singleton] at h; subst h; exact h0
  | .neg s, p, h0, h => by
    rw [prts, List.mem_append, List.mem_singleton] at h
    rcases h with h | rfl
    · exact prts_wf s p h0 h
    · exact h0
  | .two w s t, p, h0, h => by
    rw [prts, List.mem_append, List.mem_append, List.mem_singleton] at h
    rcases h with (h | h) | rfl
    · exact prts_wf s p h0.2.1 h
    · exact prts_wf t p h0.2.2 h
    · exact h0
  | .qu w a s, p, h0, h => by
    rw [prts, List.mem_append, List.mem_singleton] at h
    rcases h with h | rfl
    · exact prts_wf s p h0.2.2 h
    · exact h0
/-- as shown -/
def rp (p : PV) : PV := .str p.toD.shown
theorem rp_small {v : PV} {fr : Bool} {st : Store} (h : small v = true) (hn : wt v ≤ 60) : biV .repr fr st [v] = .ok (rp v) st :=
  repr_shows (small_shows (n := 60) h hn) (by decide) (Nat.le_trans (by omega : 40 * wt v ≤ 2400) (by decide))
theorem rp_bl {b fr : Bool} {st : Store} : biV .repr fr st [.bl b] = .ok (rp (.bl b)) st := rp_small rfl (by show 1 ≤ 60; decide)
theorem rp_frees {k : Nat} {s : S} {fr : Bool} {st : Store} (w : wfS k s) (hn : wt (encS s) ≤ 50) : biV .repr fr st [.tup ((frees s).map PV.int)] = .ok (rp (.tup ((frees s).map PV.int))) st := by
  have hl : (frees s).length ≤ 3 := by
    rw [← frees_law w]
    exact Nat.le_trans (List.length_filter_le _ _) (by decide)
  have hsm : smalls ((frees s).map PV.int) = true := by
    rw [smalls_all, List.all_eq_true]
    intro x hx
    obtain ⟨i, hi, rfl⟩ := List.mem_map.mp hx
    have := named_low s w i ((frees_named s i).mp hi)
    exact decide_eq_true (by omega)
  have hw : wts ((frees s).map PV.int) = (frees s).length := by
    generalize frees s = l
    induction l with
    | nil => rfl
    | cons x l ih => rw [List.map_cons, wts, ih, List.length_cons]; show 1 + _ = _; omega
  exact rp_small (v := .tup ((frees s).map PV.int)) hsm (by rw [wt, hw]; omega)
theorem rp_prts {k : Nat} {s : S} {fr : Bool} {st : Store} (hk : k ≤ 4) (w : wfS k s) (hn : wt (encS s) ≤ 50) : biV .repr fr st [.tup ((prts s).map encS)] = .ok (rp (.tup ((prts s).map encS))) st := by
  have hl := prts_len s
  have hd := nd_wt s
  have sh := (shows_seq (n := 60) (B := 2400) (m := 50) (xs := (prts s).map encS) (fun x hx => by
    obtain ⟨p, hp, rfl⟩ := List.mem_map.mp hx
    have h1 := prts_wt s p hp
    exact (small_shows (n := 60) (small_S hk p (prts_wf s p w hp)) (by omega)).mono rfl (by omega)) (by rw [List.length_map]; omega)).1
  exact repr_shows sh (by decide) (by decide)
theorem prts_free (s : S) : (PV.tup ((prts s).map encS)).free = true := by
  show freeAll ((prts s).map encS) = true
  rw [freeAll_all, List.all_eq_true]
  intro x hx
  obtain ⟨p, _, rfl⟩ := List.mem_map.mp hx
  exact free_encS p
section
variable {n : Nat} {st : Store} {v kv : PV} {k : Nat}
theorem ck_ok (h1 : 1 ≤ k) (h4 : k ≤ 4) : (K77.sg.ctx cl (n + 3)).fn "check_letters" [.int k] st = .ok .non st := by
  rw [L2.P.e_check_letters (g := K77.sg) at_check_letters at_is_between at_is_integer rfl rfl rfl]
  exact if_pos (decide_eq_true (by omega))
theorem ck_bad (hd : kv.data = true) (hb : L2.P.btw 1 4 kv = false) : (K77.sg.ctx cl (n + 3)).fn "check_letters" [kv] st = .exc "InvalidNumber" kv st := by
  rw [L2.P.e_check_letters (g := K77.sg) at_check_letters at_is_between at_is_integer rfl rfl hd]
  exact if_neg (by rw [hb]; decide)
theorem e_is_saying (h1 : 1 ≤ k) (h4 : k ≤ 4) (hv : small v = true) (hw : wt v ≤ 60) : (K77.sg.ctx cl (n + 7)).fn "is_saying" [.int k, v] st = .ok (.bl (isSay k v)) st := by
  have hf := small_fit v 64 hv (by omega)
  have c := fun st => ck_ok (cl := cl) (n := n + 3) (st := st) h1 h4
  have s := fun st => e_is_saying_of (cl := cl) (n := n) (st := st) (k := k) hsy hf (by omega)
  refine fn_eq at_is_saying rfl rfl (by simp [freeAll, PV.free, fit_free hf]) ?_
  simp [f_is_saying, env0, wp_ss, c, s]
theorem e_is_saying_bad (hd : kv.data = true) (hb : L2.P.btw 1 4 kv = false) (hv : small v = true) : (K77.sg.ctx cl (n + 4)).fn "is_saying" [kv, v] st = .exc "InvalidNumber" kv st := by
  have c := fun st => ck_bad (cl := cl) (n := n) (st := st) hd hb
  refine fn_exc at_is_saying rfl (by simp [freeAll, small_free hv, data_free kv hd]) ?_
  simp [f_is_saying, env0, wp_ss, c, frz_free (data_free kv hd)]
theorem e_cs (hv : small v = true) (hw : wt v ≤ 60) : (K77.sg.ctx cl (n + 7)).fn "check_saying" [.int k, v] st = if isSay k v = true then .ok .non st else .exc "InvalidSaying" v st :=
  e_check_saying (g := K77.sg) at_check_saying hsy rfl (small_fit v 64 hv (by omega)) (by omega)
theorem e_free_sets {s : S} (h1 : 1 ≤ k) (h4 : k ≤ 4) (w : wfS k s) (hs : isSay k (encS s) = true) (hw : wt (encS s) ≤ 50) : (K77.sg.ctx cl (n + 64)).fn "free_sets" [.int k, encS s] st = .ok (.tup ((frees s).map PV.int)) st := by
  have hd := nd_wt s
  have c := fun st => ck_ok (cl := cl) (n := n + 60) (st := st) h1 h4
  have d := fun st => e_cs (cl := cl) (n := n + 56) (st := st) (k := k) (small_S h4 s w) (by omega)
  have f := e_free_of (cl := cl) hsf (n + 60) s (by omega) (by omega) w
  refine fn_eq at_free_sets rfl rfl (by simp [freeAll, PV.free, free_encS]) ?_
  simp [f_free_sets, env0, wp_ss, c, d, hs, f, frz_ints]
theorem e_free_no (h1 : 1 ≤ k) (h4 : k ≤ 4) (hs : isSay k v = false) (hv : small v = true) (hw : wt v ≤ 60) : (K77.sg.ctx cl (n + 64)).fn "free_sets" [.int k, v] st = .exc "InvalidSaying" v st := by
  have c := fun st => ck_ok (cl := cl) (n := n + 60) (st := st) h1 h4
  have d := fun st => e_cs (cl := cl) (n := n + 56) (st := st) (k := k) hv hw
  refine fn_exc at_free_sets rfl (by simp [freeAll, PV.free, small_free hv]) ?_
  simp [f_free_sets, env0, wp_ss, c, d, hs, frz_free (small_free hv)]
theorem e_free_bad (hd : kv.data = true) (hb : L2.P.btw 1 4 kv = false) (hv : small v = true) : (K77.sg.ctx cl (n + 4)).fn "free_sets" [kv, v] st = .exc "InvalidNumber" kv st := by
  have c := fun st => ck_bad (cl := cl) (n := n) (st := st) hd hb
  refine fn_exc at_free_sets rfl (by simp [freeAll, small_free hv, data_free kv hd]) ?_
  simp [f_free_sets, env0, wp_ss, c, frz_free (data_free kv hd)]
theorem e_parts {s : S} (h1 : 1 ≤ k) (h4 : k ≤ 4) (w : wfS k s) (hs : isSay k (encS s) = true) (hw : wt (encS s) ≤ 50) : (K77.sg.ctx cl (n + 64)).fn "parts" [.int k, encS s] st = .ok (.tup ((prts s).map encS)) st := by
  have hd := nd_wt s
  have c := fun st => ck_ok (cl := cl) (n := n + 60) (st := st) h1 h4
  have d := fun st => e_cs (cl := cl) (n := n + 56) (st := st) (k := k) (small_S h4 s w) (by omega)
  have f := e_parts_of (cl := cl) hsf (n + 62) s (by omega) (by omega) w
  have fz : ∀ z, frz 0 z 64 (.tup ((prts s).map encS)) = some (.tup ((prts s).map encS)) := fun z => frz_free (prts_free s)
  refine fn_eq at_parts rfl rfl (by simp [freeAll, PV.free, free_encS]) ?_
  simp [f_parts, env0, wp_ss, c, d, hs, f, fz]
theorem e_parts_no (h1 : 1 ≤ k) (h4 : k ≤ 4) (hs : isSay k v = false) (hv : small v = true) (hw : wt v ≤ 60) : (K77.sg.ctx cl (n + 64)).fn "parts" [.int k, v] st = .exc "InvalidSaying" v st := by
  have c := fun st => ck_ok (cl := cl) (n := n + 60) (st := st) h1 h4
  have d := fun st => e_cs (cl := cl) (n := n + 56) (st := st) (k := k) hv hw
  refine fn_exc at_parts rfl (by simp [freeAll, PV.free, small_free hv]) ?_
  simp [f_parts, env0, wp_ss, c, d, hs, frz_free (small_free hv)]
theorem e_parts_bad (hd : kv.data = true) (hb : L2.P.btw 1 4 kv = false) (hv : small v = true) : (K77.sg.ctx cl (n + 4)).fn "parts" [kv, v] st = .exc "InvalidNumber" kv st := by
  have c := fun st => ck_bad (cl := cl) (n := n) (st := st) hd hb
  refine fn_exc at_parts rfl (by simp [freeAll, small_free hv, data_free kv hd]) ?_
  simp [f_parts, env0, wp_ss, c, frz_free (data_free kv hd)]
end
end L2.K77

/-! K77I: what the law is told. Own work. -/
namespace L2.K77
open L2.Tm hiding headOk
open PySem hiding upTo
open L2.Iv L2.Sy
variable {cl : Str → Nat}
theorem ec_n : sg.ecs.lookup ("InvalidNumber" : Str) = some [("InvalidNumber" : Str), "RowError", "ValueError"] := rfl
theorem ec_s : sg.ecs.lookup ("InvalidSaying" : Str) = some [("InvalidSaying" : Str), "RowError", "ValueError"] := rfl
@[simp] theorem d1 : (("InvalidNumber" : Str) = ("InvalidSaying" : Str)) = False := eq_false (by decide +kernel)
@[simp] theorem d2 : (("InvalidNumber" : Str) = ("RowError" : Str)) = False := eq_false (by decide +kernel)
@[simp] theorem d3 : (("InvalidNumber" : Str) = ("ValueError" : Str)) = False := eq_false (by decide +kernel)
@[simp] theorem d4 : (("InvalidSaying" : Str) = ("InvalidNumber" : Str)) = False := eq_false (by decide +kernel)
@[simp] theorem d5 : (("InvalidSaying" : Str) = ("RowError" : Str)) = False := eq_false (by decide +kernel)
@[simp] theorem d6 : (("InvalidSaying" : Str) = ("ValueError" : Str)) = False := eq_false (by decide +kernel)
section
variable {n : Nat} {st : Store} {v kv : PV} {k : Nat}
theorem frz_pair (z : Store) (a : Str) (p : PV) : frz 0 z 64 (.tup [.str a, rp p]) = some (.tup [.str a, rp p]) := frz_free rfl
theorem t_is (h1 : 1 ≤ k) (h4 : k ≤ 4) (hv : small v = true) (hw : wt v ≤ 60) : (K77.sg.ctx cl (n + 8)).fn "_law_is_told" [.int k, v] st = .ok (.tup [.str "told", rp (.bl (isSay k v))]) st := by
  have e := fun st => e_is_saying (cl := cl) (n := n) (st := st) h1 h4 hv hw
  refine fn_eq at__law_is_told rfl rfl (by simp [freeAll, PV.free, small_free hv]) ?_
  simp only [f__law_is_told, env0]
  rw [wp_ss, wp_try]
  simp [wp_ss, e, rp_bl, frz_pair]
theorem t_is_bad (hk : small kv = true) (hkw : wt kv ≤ 60) (hb : L2.P.btw 1 4 kv = false) (hv : small v = true) : (K77.sg.ctx cl (n + 8)).fn "_law_is_told" [kv, v] st = .ok (.tup [.str "number", rp kv]) st := by
  have hkd := fit_data (small_fit kv 60 hk hkw)
  have e := fun st => e_is_saying_bad (cl := cl) (n := n + 3) (st := st) hkd hb hv
  refine fn_eq at__law_is_told rfl rfl (by simp [freeAll, small_free hk, small_free hv]) ?_
  simp only [f__law_is_told, env0]
  rw [wp_ss, wp_try]
  simp [wp_ss, e, ec_n, rp_small hk hkw, frz_pair]
theorem t_fr {s : S} (h1 : 1 ≤ k) (h4 : k ≤ 4) (w : wfS k s) (hs : isSay k (encS s) = true) (hw : wt (encS s) ≤ 50) : (K77.sg.ctx cl (n + 65)).fn "_law_free_told" [.int k, encS s] st = .ok (.tup [.str "told", rp (.tup ((frees s).map PV.int))]) st := by
  have e := fun st => e_free_sets (cl := cl) (n := n) (st := st) h1 h4 w hs hw
  refine fn_eq at__law_free_told rfl rfl (by simp [freeAll, PV.free, free_encS]) ?_
  simp only [f__law_free_told, env0]
  rw [wp_ss, wp_try]
  simp [wp_ss, e, rp_frees w hw, frz_pair]
theorem t_fr_no (h1 : 1 ≤ k) (h4 : k ≤ 4) (hs : isSay k v = false) (hv : small v = true) (hw : wt v ≤ 60) : (K77.sg.ctx cl (n + 65)).fn "_law_free_told" [.int k, v] st = .ok (.tup [.str "saying", rp v]) st := by
  have e := fun st => e_free_no (cl := cl) (n := n) (st := st) h1 h4 hs hv hw
  refine fn_eq at__law_free_told rfl rfl (by simp [freeAll, PV.free, small_free hv]) ?_
  simp only [f__law_free_told, env0]
  rw [wp_ss, wp_try]
  simp [wp_ss, e, ec_s, rp_small hv hw, frz_pair]
theorem t_fr_bad (hk : small kv = true) (hkw : wt kv ≤ 60) (hb : L2.P.btw 1 4 kv = false) (hv : small v = true) : (K77.sg.ctx cl (n + 65)).fn "_law_free_told" [kv, v] st = .ok (.tup [.str "number", rp kv]) st := by
  have hkd := fit_data (small_fit kv 60 hk hkw)
  have e := fun st => e_free_bad (cl := cl) (n := n + 60) (st := st) hkd hb hv
  refine fn_eq at__law_free_told rfl rfl (by simp [freeAll, small_free hk, small_free hv]) ?_
  simp only [f__law_free_told, env0]
  rw [wp_ss, wp_try]
  simp [wp_ss, e, ec_n, rp_small hk hkw, frz_pair]
theorem rp_beq (p : PV) (st : Store) : eqvV st (rp p) (rp p) = some true := by
  show some (p.toD.shown == p.toD.shown) = some true
  simp
theorem t_pt {s : S} (h1 : 1 ≤ k) (h4 : k ≤ 4) (w : wfS k s) (hs : isSay k (encS s) = true) (hw : wt (encS s) ≤ 50) : (K77.sg.ctx cl (n + 65)).fn "_law_parts_told" [.int k, encS s] st = .ok (.tup [.str "told", rp (.tup ((prts s).map encS))]) st := by
  have e := fun st => e_parts (cl := cl) (n := n) (st := st) h1 h4 w hs hw
  refine fn_eq at__law_parts_told rfl rfl (by simp [freeAll, PV.free, free_encS]) ?_
  simp only [f__law_parts_told, env0]
  rw [wp_ss, wp_try]
  simp [wp_ss, e, rp_prts h4 w hw, frz_pair, rp_beq]
theorem t_pt_no (h1 : 1 ≤ k) (h4 : k ≤ 4) (hs : isSay k v = false) (hv : small v = true) (hw : wt v ≤ 60) : (K77.sg.ctx cl (n + 65)).fn "_law_parts_told" [.int k, v] st = .ok (.tup [.str "saying", rp v]) st := by
  have e := fun st => e_parts_no (cl := cl) (n := n) (st := st) h1 h4 hs hv hw
  refine fn_eq at__law_parts_told rfl rfl (by simp [freeAll, PV.free, small_free hv]) ?_
  simp only [f__law_parts_told, env0]
  rw [wp_ss, wp_try]
  simp [wp_ss, e, ec_s, rp_small hv hw, frz_pair]
theorem t_pt_bad (hk : small kv = true) (hkw : wt kv ≤ 60) (hb : L2.P.btw 1 4 kv = false) (hv : small v = true) : (K77.sg.ctx cl (n + 65)).fn "_law_parts_told" [kv, v] st = .ok (.tup [.str "number", rp kv]) st := by
  have hkd := fit_data (small_fit kv 60 hk hkw)
  have e := fun st => e_parts_bad (cl := cl) (n := n + 60) (st := st) hkd hb hv
  refine fn_eq at__law_parts_told rfl rfl (by simp [freeAll, small_free hk, small_free hv]) ?_
  simp only [f__law_parts_told, env0]
  rw [wp_ss, wp_try]
  simp [wp_ss, e, ec_n, rp_small hk hkw, frz_pair]
end
end L2.K77

/-! K77W: the law. Own work. -/
namespace L2.K77
open L2.Tm hiding headOk
open PySem hiding upTo
open L2.Iv L2.Sy
open L2.V (Src w_draw w_source free_ints)
@[simp] theorem ix31 : L2.ixN 3 1 = some 1 := rfl
@[simp] theorem ix32 : L2.ixN 3 2 = some 2 := rfl
theorem mul3 {st : Store} {p : PV} : binV .mul false st (.lsv [p]) (.int 3) = .ok (.loc st.length) (st ++ [[p, p, p]]) := by
  show mulL false st (.lsv [p]) 3 = _
  have h : -(2 ^ 63) ≤ (3 : Int) ∧ (3 : Int) < 2 ^ 63 ∧ [p].length * (3 : Int).toNat ≤ sizeLine := ⟨by decide, by decide, by show 1 * 3 ≤ sizeLine; decide⟩
  unfold mulL
  simp only [seqL_lsv]
  rw [if_pos h]
  rfl
theorem eqv_rp {st : Store} {a : Str} {p : PV} (ha : PyData.strOk a = true) (hp : PyData.strOk p.toD.shown = true) : eqvV st (.tup [.str a, rp p]) (.tup [.str a, rp p]) = some true := eqv_pair ha hp
theorem k_told : PyData.strOk "told" = true := by decide +kernel
theorem k_number : PyData.strOk "number" = true := by decide +kernel
theorem k_saying : PyData.strOk "saying" = true := by decide +kernel
def restL : Sxs := (.cons (.asg (.p (.n 6)) (.call "_law_is_right" (.cons (.v 4) (.cons (.v 5) .nil)))) <|
  .cons (.asg (.p (.n 7)) (.ite (.v 2) (.call "_law_bad_number" (.cons (.v 1) .nil)) (.v 4))) <|
  .cons (.asg (.p (.n 8)) (.lst false (.cons (.tup (.cons (.c (.str "told")) (.cons (.bi .repr true (.cons (.v 6) .nil)) .nil))) (.cons (.tup (.cons (.c (.str "saying")) (.cons (.bi .repr true (.cons (.v 5) .nil)) .nil))) (.cons (.tup (.cons (.c (.str "saying")) (.cons (.bi .repr true (.cons (.v 5) .nil)) .nil))) .nil))))) <|
  .cons (.iff (.v 6) (.cons (.asg (.sub (.v 8) (.c (.int 1))) (.tup (.cons (.c (.str "told")) (.cons (.bi .repr true (.cons (.call "_law_free" (.cons (.v 5) .nil)) .nil)) .nil)))) <|
    .cons (.asg (.sub (.v 8) (.c (.int 2))) (.tup (.cons (.c (.str "told")) (.cons (.bi .repr true (.cons (.bi .tuple true (.cons (.call "_law_parts" (.cons (.v 5) .nil)) .nil)) .nil)) .nil)))) <|
    .nil) (.nil)) <|
  .cons (.iff (.v 2) (.cons (.asg (.p (.n 8)) (.bin .mul false (.lst true (.cons (.tup (.cons (.c (.str "number")) (.cons (.bi .repr true (.cons (.v 7) .nil)) .nil))) .nil)) (.c (.int 3)))) <|
    .nil) (.nil)) <|
  .cons (.iff (.ors (.cons (.cmp .ne (.call "_law_free_told" (.cons (.v 7) (.cons (.v 5) .nil))) (.ix (.v 8) (.c (.int 1)))) (.cons (.cmp .ne (.call "_law_is_told" (.cons (.v 7) (.cons (.v 5) .nil))) (.ix (.v 8) (.c (.int 0)))) .nil))) (.cons (.ret (.c (.bl false))) <|
    .nil) (.nil)) <|
  .cons (.iff (.ors (.cons (.cmp .ne (.call "_law_parts_told" (.cons (.v 7) (.cons (.v 5) .nil))) (.ix (.v 8) (.c (.int 2)))) (.cons (.cmp .ne (.call "_law_free_told" (.cons (.v 7) (.cons (.v 5) .nil))) (.ix (.v 8) (.c (.int 1)))) .nil))) (.cons (.ret (.c (.bl false))) <|
    .nil) (.nil)) <|
  .cons (.ret (.cmp .eq (.call "_law_is_told" (.cons (.v 4) (.cons (.v 5) .nil))) (.tup (.cons (.c (.str "told")) (.cons (.bi .repr true (.cons (.v 6) .nil)) .nil))))) <|
  .nil)
theorem rest_ok {cl : Str → Nat} {ns : List Int} {od sp : Bool} {k c : Nat} {v : PV} {ys : List PV} (h1 : 1 ≤ k) (h4 : k ≤ 4) (hv : small v = true) (hw : wt v ≤ 50) (hy : Src c ys) (hc : c < 10 ^ 10) :
    wpO (evSs (K77.sg.ctx cl 149) restL [some (.lsv (ns.map PV.int)), some (.loc 0), some (.bl od), some (.bl sp), some (.int k), some v, none, none, none] [ys]) fun r s2 => match r with
      | .rt u => frz 0 s2 64 u = some (.bl true)
      | _ => False := by
  have hd := fit_data (small_fit v 60 hv (by omega))
  have er := e_right (cl := cl) (k := k) 147 v (by omega) hd
  have ti := fun st => t_is (cl := cl) (n := 141) (st := st) h1 h4 hv (by omega)
  have rv := fun {fr : Bool} {st : Store} => rp_small (fr := fr) (st := st) hv (by omega)
  have okb : ∀ b : Bool, PyData.strOk (PV.bl b).toD.shown = true := fun b => small_ok (.bl b) rfl
  have okv := small_ok v hv
  unfold restL
  rw [wp_ss]
  simp [er]
  rw [wp_ss]
  cases od with
  | true =>
    simp
    refine wpX_of_wp (w_bad (n := 146) rfl hy (by omega) fun kv zs k1 k2 k3 hz => ?_)
    have rk := fun {fr : Bool} {st : Store} => rp_small (fr := fr) (st := st) k1 (by omega)
    have okk := small_ok kv k1
    have q1 := fun st => t_is_bad (cl := cl) (n := 141) (st := st) k1 (by omega) k3 hv
    have q2 := fun st => t_fr_bad (cl := cl) (n := 84) (st := st) k1 (by omega) k3 hv
    have q3 := fun st => t_pt_bad (cl := cl) (n := 84) (st := st) k1 (by omega) k3 hv
    have tail : ∀ (due : List PV), wpO (evSs (K77.sg.ctx cl 149) (.cons (.iff (.v 2) (.cons (.asg (.p (.n 8)) (.bin .mul false (.lst true (.cons (.tup (.cons (.c (.str "number")) (.cons (.bi .repr true (.cons (.v 7) .nil)) .nil))) .nil)) (.c (.int 3)))) .nil) (.nil)) <|
  .cons (.iff (.ors (.cons (.cmp .ne (.call "_law_free_told" (.cons (.v 7) (.cons (.v 5) .nil))) (.ix (.v 8) (.c (.int 1)))) (.cons (.cmp .ne (.call "_law_is_told" (.cons (.v 7) (.cons (.v 5) .nil))) (.ix (.v 8) (.c (.int 0)))) .nil))) (.cons (.ret (.c (.bl false))) <|
    .nil) (.nil)) <|
  .cons (.iff (.ors (.cons (.cmp .ne (.call "_law_parts_told" (.cons (.v 7) (.cons (.v 5) .nil))) (.ix (.v 8) (.c (.int 2)))) (.cons (.cmp .ne (.call "_law_free_told" (.cons (.v 7) (.cons (.v 5) .nil))) (.ix (.v 8) (.c (.int 1)))) .nil))) (.cons (.ret (.c (.bl false))) <|
    .nil) (.nil)) <|
  .cons (.ret (.cmp .eq (.call "_law_is_told" (.cons (.v 4) (.cons (.v 5) .nil))) (.tup (.cons (.c (.str "told")) (.cons (.bi .repr true (.cons (.v 6) .nil)) .nil))))) <|
  .nil) [some (.lsv (ns.map PV.int)), some (.loc 0), some (.bl true), some (.bl sp), some (.int k), some v, some (.bl (isSay k v)), some kv, some (.loc 1)] [zs, due]) fun r s2 => match r with
      | .rt u => frz 0 s2 64 u = some (.bl true)
      | _ => False := by
      intro due
      rw [wp_ss]
      simp
      rw [wp_ss]
      simp [rk, mul3]
      rw [wp_ss]
      simp [q1, q2, eqv_rp k_number okk]
      rw [wp_ss]
      simp [q2, q3, eqv_rp k_number okk]
      rw [wp_ss]
      simp [ti, rp_bl, eqv_rp k_told (okb _)]
    simp
    rw [wp_ss]
    simp [rp_bl, rv]
    rw [wp_ss]
    cases hs : isSay k v with
    | false =>
      rw [hs] at tail
      simp
      exact tail _
    | true =>
      rw [hs] at tail
      obtain ⟨s, rfl, w⟩ := say_of (k := k) (wt v) v (Nat.le_refl _) hs
      have hn := nd_wt s
      have lf := fun st => e_lfree (cl := cl) (n := 147) (st := st) (by omega) (by omega) w
      have lp := e_lparts (cl := cl) 148 s (by omega) (by omega) w
      simp
      rw [wp_ss]
      simp [lf, rp_frees w hw]
      rw [wp_ss]
      simp [lp, rp_prts h4 w hw]
      exact tail _
  | false =>
    simp
    rw [wp_ss]
    simp [rp_bl, rv]
    rw [wp_ss]
    cases hs : isSay k v with
    | false =>
      have q2 := fun st => t_fr_no (cl := cl) (n := 84) (st := st) h1 h4 hs hv (by omega)
      have q3 := fun st => t_pt_no (cl := cl) (n := 84) (st := st) h1 h4 hs hv (by omega)
      rw [hs] at ti
      simp
      rw [wp_ss]
      simp
      rw [wp_ss]
      simp [ti, q2, eqv_rp k_saying okv, eqv_rp k_told (okb _)]
      rw [wp_ss]
      simp [q2, q3, eqv_rp k_saying okv]
      rw [wp_ss]
      simp [ti, rp_bl, eqv_rp k_told (okb _)]
    | true =>
      obtain ⟨s, rfl, w⟩ := say_of (k := k) (wt v) v (Nat.le_refl _) hs
      have hn := nd_wt s
      have lf := fun st => e_lfree (cl := cl) (n := 147) (st := st) (by omega) (by omega) w
      have lp := e_lparts (cl := cl) 148 s (by omega) (by omega) w
      have q2 := fun st => t_fr (cl := cl) (n := 84) (st := st) h1 h4 w hs hw
      have q3 := fun st => t_pt (cl := cl) (n := 84) (st := st) h1 h4 w hs hw
      have ok1 : PyData.strOk (PV.tup ((frees s).map PV.int)).toD.shown = true := by
        refine small_ok _ ?_
        show smalls ((frees s).map PV.int) = true
        rw [smalls_all, List.all_eq_true]
        intro x hx
        obtain ⟨i, hi, rfl⟩ := List.mem_map.mp hx
        have := named_low s w i ((frees_named s i).mp hi)
        exact decide_eq_true (by omega)
      have ok2 : PyData.strOk (PV.tup ((prts s).map encS)).toD.shown = true := by
        refine small_ok _ ?_
        show smalls ((prts s).map encS) = true
        rw [smalls_all, List.all_eq_true]
        intro x hx
        obtain ⟨p, hp, rfl⟩ := List.mem_map.mp hx
        exact small_S h4 p (prts_wf s p w hp)
      rw [hs] at ti
      simp
      rw [wp_ss]
      simp [lf, rp_frees w hw]
      rw [wp_ss]
      simp [lp, rp_prts h4 w hw]
      rw [wp_ss]
      simp
      rw [wp_ss]
      simp [ti, q2, eqv_rp k_told ok1, eqv_rp k_told (okb _)]
      rw [wp_ss]
      simp [q2, q3, eqv_rp k_told ok1, eqv_rp k_told ok2]
      rw [wp_ss]
      simp [ti, rp_bl, eqv_rp k_told (okb _)]
theorem law_ok (cl : Str → Nat) (ns : List Int) (h : ns.length ≤ 63) : ∃ st, callF cl sg.ecs sg.tb (fun y => sg.gl.lookup y) 150 "law" [.lsv (ns.map PV.int)] [] = .ok (.bl true) st := by
  refine ⟨[], ?_⟩
  have ft : freeAll [.lsv (ns.map PV.int)] = true := by simp [freeAll, PV.free, free_ints]
  refine fn_eq (g := K77.sg) (cl := cl) (n := 149) at_law rfl rfl ft ?_
  simp only [f_law, env0]
  rw [wp_ss]
  simp
  refine wpX_of_wp (w_source (n := 148) (st := []) at__law_source h fun xs hx => ?_)
  try simp
  rw [wp_ss]
  simp
  refine wpX_of_wp (w_draw (n := 147) aD aM rfl hx (by omega) (by decide) (by decide) fun r1 xs r10 r11 hx => ?_)
  simp
  rw [wp_ss]
  simp
  refine wpX_of_wp (w_draw (n := 147) aD aM rfl hx (by omega) (by decide) (by decide) fun r2 xs r20 r21 hx => ?_)
  simp
  rw [wp_ss]
  simp
  refine wpX_of_wp (w_draw (n := 147) aD aM rfl hx (by omega) (by decide) (by decide) fun r3 xs r30 r31 hx => ?_)
  simp
  rw [wp_ss]
  obtain ⟨k, hk, hk1, hk4⟩ : ∃ k : Nat, 1 + r3 = (k : Int) ∧ 1 ≤ k ∧ k ≤ 4 := ⟨(1 + r3).toNat, by omega, by omega, by omega⟩
  rw [hk]
  simp
  refine wpX_of_wp (w_draw (n := 147) aD aM rfl hx (by omega) (by decide) (by decide) fun r4 xs r40 r41 hx => ?_)
  obtain ⟨R, hR, hR1, hR2⟩ : ∃ R : Nat, 1 + r4 = (R : Int) ∧ 1 ≤ R ∧ R ≤ 12 := ⟨(1 + r4).toNat, by omega, by omega, by omega⟩
  simp
  rw [hR]
  refine wpX_of_wp (w_saying (cl := cl) hk1 hk4 12 146 R 6 3 1 _ 0 xs [xs] _ hR1 hR2 (by decide) (by decide) (by omega) rfl hx fun s xs hs hn hx => ?_)
  have hsm := small_S hk4 s hs
  have hwt := wt_S s
  simp
  rw [wp_ss]
  by_cases hsp : 0 < r2
  · simp [hsp]
    rw [wp_ss]
    simp
    refine wpX_of_wp (w_spoilt (cl := cl) hk4 12 146 s _ 0 xs [xs] _ (by omega) (by decide) (by decide) hs (by omega) rfl hx fun v xs h1 h2 hx => ?_)
    simp
    refine wp_mono (rest_ok (cl := cl) (ns := ns) (od := r1 == 0) (sp := true) hk1 hk4 h1 (by omega) hx (by omega)) fun f s2 hh => ?_
    cases f with
    | rt u => exact hh
    | _ => exact hh.elim
  · simp [hsp]
    refine wp_mono (rest_ok (cl := cl) (ns := ns) (od := r1 == 0) (sp := false) hk1 hk4 hsm (by omega) hx (by omega)) fun f s2 hh => ?_
    cases f with
    | rt u => exact hh
    | _ => exact hh.elim
end L2.K77

/-! K77Z: the program stands in the top as the text says; the law. Printed by gen.py, own work. -/
namespace L2.K77
open PySem PySem.Spec PyProof.Rows L2.Iv
theorem def_is_integer {K : PySem.W.Frag} {h : Heap} {mg : Str → Option Value} (KX : K.In h) (G : h.Ns mainGlobals mg) {a : Addr} {od an : Option Addr} {sl : Array (Option Value)} {oc kV dc pm cd ct : Value}
    (n : PySem.W.nsIn K mainGlobals "is_integer" = some (some (.ref a))) (l : K.lookup a = some ⟨oc, od, .func (PySem.W.fnOf "is_integer" "is_integer" (defArgs (topS 5)) (defBody (topS 5)) (defScope (topS 5)) .none kV dc pm an cd ct), sl⟩)
    (c : PySem.W.codeIn K cd "is_integer" = true) (k : PySem.W.keepIn K (.ref a) = true) : ∃ a fd, DefAt K mg sg "is_integer" f_is_integer a fd := by
  refine ⟨a, PySem.W.fnOf "is_integer" "is_integer" (defArgs (topS 5)) (defBody (topS 5)) (defScope (topS 5)) .none kV dc pm an cd ct, PySem.W.mg_of KX G n, ⟨topS 5, "is_integer", fun_mk l c k, scope_is_integer, look_is_integer⟩, fun s us hl => ?_, fun ks np perm hm => ?_⟩
  · match us, hl with
    | [_], _ => exact .of_eq rfl
  · have hm : (("is_integer" : Str), ks, np, perm) ∈ [(("is_saying" : Str), (["told", "k"] : List Str), (0 : Nat), ([1, 0] : List Nat)), (("free_sets" : Str), (["saying", "k"] : List Str), (0 : Nat), ([1, 0] : List Nat)), (("parts" : Str), (["saying", "k"] : List Str), (0 : Nat), ([1, 0] : List Nat))] := hm
    simp only [List.mem_cons, List.not_mem_nil, or_false, Prod.mk.injEq] at hm
    rcases hm with h | h | h
    · exact absurd h.1 (by decide)
    · exact absurd h.1 (by decide)
    · exact absurd h.1 (by decide)
theorem def_is_between {K : PySem.W.Frag} {h : Heap} {mg : Str → Option Value} (KX : K.In h) (G : h.Ns mainGlobals mg) {a : Addr} {od an : Option Addr} {sl : Array (Option Value)} {oc kV dc pm cd ct : Value}
    (n : PySem.W.nsIn K mainGlobals "is_between" = some (some (.ref a))) (l : K.lookup a = some ⟨oc, od, .func (PySem.W.fnOf "is_between" "is_between" (defArgs (topS 6)) (defBody (topS 6)) (defScope (topS 6)) .none kV dc pm an cd ct), sl⟩)
    (c : PySem.W.codeIn K cd "is_between" = true) (k : PySem.W.keepIn K (.ref a) = true) : ∃ a fd, DefAt K mg sg "is_between" f_is_between a fd := by
  refine ⟨a, PySem.W.fnOf "is_between" "is_between" (defArgs (topS 6)) (defBody (topS 6)) (defScope (topS 6)) .none kV dc pm an cd ct, PySem.W.mg_of KX G n, ⟨topS 6, "is_between", fun_mk l c k, scope_is_between, look_is_between⟩, fun s us hl => ?_, fun ks np perm hm => ?_⟩
  · match us, hl with
    | [_, _, _], _ => exact .of_eq rfl
  · have hm : (("is_between" : Str), ks, np, perm) ∈ [(("is_saying" : Str), (["told", "k"] : List Str), (0 : Nat), ([1, 0] : List Nat)), (("free_sets" : Str), (["saying", "k"] : List Str), (0 : Nat), ([1, 0] : List Nat)), (("parts" : Str), (["saying", "k"] : List Str), (0 : Nat), ([1, 0] : List Nat))] := hm
    simp only [List.mem_cons, List.not_mem_nil, or_false, Prod.mk.injEq] at hm
    rcases hm with h | h | h
    · exact absurd h.1 (by decide)
    · exact absurd h.1 (by decide)
    · exact absurd h.1 (by decide)
theorem def_check_letters {K : PySem.W.Frag} {h : Heap} {mg : Str → Option Value} (KX : K.In h) (G : h.Ns mainGlobals mg) {a : Addr} {od an : Option Addr} {sl : Array (Option Value)} {oc kV dc pm cd ct : Value}
    (n : PySem.W.nsIn K mainGlobals "check_letters" = some (some (.ref a))) (l : K.lookup a = some ⟨oc, od, .func (PySem.W.fnOf "check_letters" "check_letters" (defArgs (topS 9)) (defBody (topS 9)) (defScope (topS 9)) .none kV dc pm an cd ct), sl⟩)
    (c : PySem.W.codeIn K cd "check_letters" = true) (k : PySem.W.keepIn K (.ref a) = true) : ∃ a fd, DefAt K mg sg "check_letters" f_check_letters a fd := by
  refine ⟨a, PySem.W.fnOf "check_letters" "check_letters" (defArgs (topS 9)) (defBody (topS 9)) (defScope (topS 9)) .none kV dc pm an cd ct, PySem.W.mg_of KX G n, ⟨topS 9, "check_letters", fun_mk l c k, scope_check_letters, look_check_letters⟩, fun s us hl => ?_, fun ks np perm hm => ?_⟩
  · match us, hl with
    | [_], _ => exact .of_eq rfl
  · have hm : (("check_letters" : Str), ks, np, perm) ∈ [(("is_saying" : Str), (["told", "k"] : List Str), (0 : Nat), ([1, 0] : List Nat)), (("free_sets" : Str), (["saying", "k"] : List Str), (0 : Nat), ([1, 0] : List Nat)), (("parts" : Str), (["saying", "k"] : List Str), (0 : Nat), ([1, 0] : List Nat))] := hm
    simp only [List.mem_cons, List.not_mem_nil, or_false, Prod.mk.injEq] at hm
    rcases hm with h | h | h
    · exact absurd h.1 (by decide)
    · exact absurd h.1 (by decide)
    · exact absurd h.1 (by decide)
theorem def_is_set_name {K : PySem.W.Frag} {h : Heap} {mg : Str → Option Value} (KX : K.In h) (G : h.Ns mainGlobals mg) {a : Addr} {od an : Option Addr} {sl : Array (Option Value)} {oc kV dc pm cd ct : Value}
    (n : PySem.W.nsIn K mainGlobals "is_set_name" = some (some (.ref a))) (l : K.lookup a = some ⟨oc, od, .func (PySem.W.fnOf "is_set_name" "is_set_name" (defArgs (topS 16)) (defBody (topS 16)) (defScope (topS 16)) .none kV dc pm an cd ct), sl⟩)
    (c : PySem.W.codeIn K cd "is_set_name" = true) (k : PySem.W.keepIn K (.ref a) = true) : ∃ a fd, DefAt K mg sg "is_set_name" f_is_set_name a fd := by
  refine ⟨a, PySem.W.fnOf "is_set_name" "is_set_name" (defArgs (topS 16)) (defBody (topS 16)) (defScope (topS 16)) .none kV dc pm an cd ct, PySem.W.mg_of KX G n, ⟨topS 16, "is_set_name", fun_mk l c k, scope_is_set_name, look_is_set_name⟩, fun s us hl => ?_, fun ks np perm hm => ?_⟩
  · match us, hl with
    | [_], _ => exact .of_eq rfl
  · have hm : (("is_set_name" : Str), ks, np, perm) ∈ [(("is_saying" : Str), (["told", "k"] : List Str), (0 : Nat), ([1, 0] : List Nat)), (("free_sets" : Str), (["saying", "k"] : List Str), (0 : Nat), ([1, 0] : List Nat)), (("parts" : Str), (["saying", "k"] : List Str), (0 : Nat), ([1, 0] : List Nat))] := hm
    simp only [List.mem_cons, List.not_mem_nil, or_false, Prod.mk.injEq] at hm
    rcases hm with h | h | h
    · exact absurd h.1 (by decide)
    · exact absurd h.1 (by decide)
    · exact absurd h.1 (by decide)
theorem def_are_names {K : PySem.W.Frag} {h : Heap} {mg : Str → Option Value} (KX : K.In h) (G : h.Ns mainGlobals mg) {a : Addr} {od an : Option Addr} {sl : Array (Option Value)} {oc kV dc pm cd ct : Value}
    (n : PySem.W.nsIn K mainGlobals "are_names" = some (some (.ref a))) (l : K.lookup a = some ⟨oc, od, .func (PySem.W.fnOf "are_names" "are_names" (defArgs (topS 17)) (defBody (topS 17)) (defScope (topS 17)) .none kV dc pm an cd ct), sl⟩)
    (c : PySem.W.codeIn K cd "are_names" = true) (k : PySem.W.keepIn K (.ref a) = true) : ∃ a fd, DefAt K mg sg "are_names" f_are_names a fd := by
  refine ⟨a, PySem.W.fnOf "are_names" "are_names" (defArgs (topS 17)) (defBody (topS 17)) (defScope (topS 17)) .none kV dc pm an cd ct, PySem.W.mg_of KX G n, ⟨topS 17, "are_names", fun_mk l c k, scope_are_names, look_are_names⟩, fun s us hl => ?_, fun ks np perm hm => ?_⟩
  · match us, hl with
    | [_, _, _], _ => exact .of_eq rfl
  · have hm : (("are_names" : Str), ks, np, perm) ∈ [(("is_saying" : Str), (["told", "k"] : List Str), (0 : Nat), ([1, 0] : List Nat)), (("free_sets" : Str), (["saying", "k"] : List Str), (0 : Nat), ([1, 0] : List Nat)), (("parts" : Str), (["saying", "k"] : List Str), (0 : Nat), ([1, 0] : List Nat))] := hm
    simp only [List.mem_cons, List.not_mem_nil, or_false, Prod.mk.injEq] at hm
    rcases hm with h | h | h
    · exact absurd h.1 (by decide)
    · exact absurd h.1 (by decide)
    · exact absurd h.1 (by decide)
theorem def_must_be {K : PySem.W.Frag} {h : Heap} {mg : Str → Option Value} (KX : K.In h) (G : h.Ns mainGlobals mg) {a : Addr} {od an : Option Addr} {sl : Array (Option Value)} {oc kV dc pm cd ct : Value}
    (n : PySem.W.nsIn K mainGlobals "must_be" = some (some (.ref a))) (l : K.lookup a = some ⟨oc, od, .func (PySem.W.fnOf "must_be" "must_be" (defArgs (topS 18)) (defBody (topS 18)) (defScope (topS 18)) .none kV dc pm an cd ct), sl⟩)
    (c : PySem.W.codeIn K cd "must_be" = true) (k : PySem.W.keepIn K (.ref a) = true) : ∃ a fd, DefAt K mg sg "must_be" f_must_be a fd := by
  refine ⟨a, PySem.W.fnOf "must_be" "must_be" (defArgs (topS 18)) (defBody (topS 18)) (defScope (topS 18)) .none kV dc pm an cd ct, PySem.W.mg_of KX G n, ⟨topS 18, "must_be", fun_mk l c k, scope_must_be, look_must_be⟩, fun s us hl => ?_, fun ks np perm hm => ?_⟩
  · match us, hl with
    | [_, _], _ => exact .of_eq rfl
  · have hm : (("must_be" : Str), ks, np, perm) ∈ [(("is_saying" : Str), (["told", "k"] : List Str), (0 : Nat), ([1, 0] : List Nat)), (("free_sets" : Str), (["saying", "k"] : List Str), (0 : Nat), ([1, 0] : List Nat)), (("parts" : Str), (["saying", "k"] : List Str), (0 : Nat), ([1, 0] : List Nat))] := hm
    simp only [List.mem_cons, List.not_mem_nil, or_false, Prod.mk.injEq] at hm
    rcases hm with h | h | h
    · exact absurd h.1 (by decide)
    · exact absurd h.1 (by decide)
    · exact absurd h.1 (by decide)
theorem def_is_saying_of {K : PySem.W.Frag} {h : Heap} {mg : Str → Option Value} (KX : K.In h) (G : h.Ns mainGlobals mg) {a : Addr} {od an : Option Addr} {sl : Array (Option Value)} {oc kV dc pm cd ct : Value}
    (n : PySem.W.nsIn K mainGlobals "is_saying_of" = some (some (.ref a))) (l : K.lookup a = some ⟨oc, od, .func (PySem.W.fnOf "is_saying_of" "is_saying_of" (defArgs (topS 19)) (defBody (topS 19)) (defScope (topS 19)) .none kV dc pm an cd ct), sl⟩)
    (c : PySem.W.codeIn K cd "is_saying_of" = true) (k : PySem.W.keepIn K (.ref a) = true) : ∃ a fd, DefAt K mg sg "is_saying_of" f_is_saying_of a fd := by
  refine ⟨a, PySem.W.fnOf "is_saying_of" "is_saying_of" (defArgs (topS 19)) (defBody (topS 19)) (defScope (topS 19)) .none kV dc pm an cd ct, PySem.W.mg_of KX G n, ⟨topS 19, "is_saying_of", fun_mk l c k, scope_is_saying_of, look_is_saying_of⟩, fun s us hl => ?_, fun ks np perm hm => ?_⟩
  · match us, hl with
    | [_, _], _ => exact .of_eq rfl
  · have hm : (("is_saying_of" : Str), ks, np, perm) ∈ [(("is_saying" : Str), (["told", "k"] : List Str), (0 : Nat), ([1, 0] : List Nat)), (("free_sets" : Str), (["saying", "k"] : List Str), (0 : Nat), ([1, 0] : List Nat)), (("parts" : Str), (["saying", "k"] : List Str), (0 : Nat), ([1, 0] : List Nat))] := hm
    simp only [List.mem_cons, List.not_mem_nil, or_false, Prod.mk.injEq] at hm
    rcases hm with h | h | h
    · exact absurd h.1 (by decide)
    · exact absurd h.1 (by decide)
    · exact absurd h.1 (by decide)
theorem def_check_saying {K : PySem.W.Frag} {h : Heap} {mg : Str → Option Value} (KX : K.In h) (G : h.Ns mainGlobals mg) {a : Addr} {od an : Option Addr} {sl : Array (Option Value)} {oc kV dc pm cd ct : Value}
    (n : PySem.W.nsIn K mainGlobals "check_saying" = some (some (.ref a))) (l : K.lookup a = some ⟨oc, od, .func (PySem.W.fnOf "check_saying" "check_saying" (defArgs (topS 20)) (defBody (topS 20)) (defScope (topS 20)) .none kV dc pm an cd ct), sl⟩)
    (c : PySem.W.codeIn K cd "check_saying" = true) (k : PySem.W.keepIn K (.ref a) = true) : ∃ a fd, DefAt K mg sg "check_saying" f_check_saying a fd := by
  refine ⟨a, PySem.W.fnOf "check_saying" "check_saying" (defArgs (topS 20)) (defBody (topS 20)) (defScope (topS 20)) .none kV dc pm an cd ct, PySem.W.mg_of KX G n, ⟨topS 20, "check_saying", fun_mk l c k, scope_check_saying, look_check_saying⟩, fun s us hl => ?_, fun ks np perm hm => ?_⟩
  · match us, hl with
    | [_, _], _ => exact .of_eq rfl
  · have hm : (("check_saying" : Str), ks, np, perm) ∈ [(("is_saying" : Str), (["told", "k"] : List Str), (0 : Nat), ([1, 0] : List Nat)), (("free_sets" : Str), (["saying", "k"] : List Str), (0 : Nat), ([1, 0] : List Nat)), (("parts" : Str), (["saying", "k"] : List Str), (0 : Nat), ([1, 0] : List Nat))] := hm
    simp only [List.mem_cons, List.not_mem_nil, or_false, Prod.mk.injEq] at hm
    rcases hm with h | h | h
    · exact absurd h.1 (by decide)
    · exact absurd h.1 (by decide)
    · exact absurd h.1 (by decide)
theorem def_inner_parts {K : PySem.W.Frag} {h : Heap} {mg : Str → Option Value} (KX : K.In h) (G : h.Ns mainGlobals mg) {a : Addr} {od an : Option Addr} {sl : Array (Option Value)} {oc kV dc pm cd ct : Value}
    (n : PySem.W.nsIn K mainGlobals "inner_parts" = some (some (.ref a))) (l : K.lookup a = some ⟨oc, od, .func (PySem.W.fnOf "inner_parts" "inner_parts" (defArgs (topS 21)) (defBody (topS 21)) (defScope (topS 21)) .none kV dc pm an cd ct), sl⟩)
    (c : PySem.W.codeIn K cd "inner_parts" = true) (k : PySem.W.keepIn K (.ref a) = true) : ∃ a fd, DefAt K mg sg "inner_parts" f_inner_parts a fd := by
  refine ⟨a, PySem.W.fnOf "inner_parts" "inner_parts" (defArgs (topS 21)) (defBody (topS 21)) (defScope (topS 21)) .none kV dc pm an cd ct, PySem.W.mg_of KX G n, ⟨topS 21, "inner_parts", fun_mk l c k, scope_inner_parts, look_inner_parts⟩, fun s us hl => ?_, fun ks np perm hm => ?_⟩
  · match us, hl with
    | [_], _ => exact .of_eq rfl
  · have hm : (("inner_parts" : Str), ks, np, perm) ∈ [(("is_saying" : Str), (["told", "k"] : List Str), (0 : Nat), ([1, 0] : List Nat)), (("free_sets" : Str), (["saying", "k"] : List Str), (0 : Nat), ([1, 0] : List Nat)), (("parts" : Str), (["saying", "k"] : List Str), (0 : Nat), ([1, 0] : List Nat))] := hm
    simp only [List.mem_cons, List.not_mem_nil, or_false, Prod.mk.injEq] at hm
    rcases hm with h | h | h
    · exact absurd h.1 (by decide)
    · exact absurd h.1 (by decide)
    · exact absurd h.1 (by decide)
theorem def_is_atom {K : PySem.W.Frag} {h : Heap} {mg : Str → Option Value} (KX : K.In h) (G : h.Ns mainGlobals mg) {a : Addr} {od an : Option Addr} {sl : Array (Option Value)} {oc kV dc pm cd ct : Value}
    (n : PySem.W.nsIn K mainGlobals "is_atom" = some (some (.ref a))) (l : K.lookup a = some ⟨oc, od, .func (PySem.W.fnOf "is_atom" "is_atom" (defArgs (topS 22)) (defBody (topS 22)) (defScope (topS 22)) .none kV dc pm an cd ct), sl⟩)
    (c : PySem.W.codeIn K cd "is_atom" = true) (k : PySem.W.keepIn K (.ref a) = true) : ∃ a fd, DefAt K mg sg "is_atom" f_is_atom a fd := by
  refine ⟨a, PySem.W.fnOf "is_atom" "is_atom" (defArgs (topS 22)) (defBody (topS 22)) (defScope (topS 22)) .none kV dc pm an cd ct, PySem.W.mg_of KX G n, ⟨topS 22, "is_atom", fun_mk l c k, scope_is_atom, look_is_atom⟩, fun s us hl => ?_, fun ks np perm hm => ?_⟩
  · match us, hl with
    | [_], _ => exact .of_eq rfl
  · have hm : (("is_atom" : Str), ks, np, perm) ∈ [(("is_saying" : Str), (["told", "k"] : List Str), (0 : Nat), ([1, 0] : List Nat)), (("free_sets" : Str), (["saying", "k"] : List Str), (0 : Nat), ([1, 0] : List Nat)), (("parts" : Str), (["saying", "k"] : List Str), (0 : Nat), ([1, 0] : List Nat))] := hm
    simp only [List.mem_cons, List.not_mem_nil, or_false, Prod.mk.injEq] at hm
    rcases hm with h | h | h
    · exact absurd h.1 (by decide)
    · exact absurd h.1 (by decide)
    · exact absurd h.1 (by decide)
theorem def_free_of {K : PySem.W.Frag} {h : Heap} {mg : Str → Option Value} (KX : K.In h) (G : h.Ns mainGlobals mg) {a : Addr} {od an : Option Addr} {sl : Array (Option Value)} {oc kV dc pm cd ct : Value}
    (n : PySem.W.nsIn K mainGlobals "free_of" = some (some (.ref a))) (l : K.lookup a = some ⟨oc, od, .func (PySem.W.fnOf "free_of" "free_of" (defArgs (topS 23)) (defBody (topS 23)) (defScope (topS 23)) .none kV dc pm an cd ct), sl⟩)
    (c : PySem.W.codeIn K cd "free_of" = true) (k : PySem.W.keepIn K (.ref a) = true) : ∃ a fd, DefAt K mg sg "free_of" f_free_of a fd := by
  refine ⟨a, PySem.W.fnOf "free_of" "free_of" (defArgs (topS 23)) (defBody (topS 23)) (defScope (topS 23)) .none kV dc pm an cd ct, PySem.W.mg_of KX G n, ⟨topS 23, "free_of", fun_mk l c k, scope_free_of, look_free_of⟩, fun s us hl => ?_, fun ks np perm hm => ?_⟩
  · match us, hl with
    | [_], _ => exact .of_eq rfl
  · have hm : (("free_of" : Str), ks, np, perm) ∈ [(("is_saying" : Str), (["told", "k"] : List Str), (0 : Nat), ([1, 0] : List Nat)), (("free_sets" : Str), (["saying", "k"] : List Str), (0 : Nat), ([1, 0] : List Nat)), (("parts" : Str), (["saying", "k"] : List Str), (0 : Nat), ([1, 0] : List Nat))] := hm
    simp only [List.mem_cons, List.not_mem_nil, or_false, Prod.mk.injEq] at hm
    rcases hm with h | h | h
    · exact absurd h.1 (by decide)
    · exact absurd h.1 (by decide)
    · exact absurd h.1 (by decide)
theorem def_parts_of {K : PySem.W.Frag} {h : Heap} {mg : Str → Option Value} (KX : K.In h) (G : h.Ns mainGlobals mg) {a : Addr} {od an : Option Addr} {sl : Array (Option Value)} {oc kV dc pm cd ct : Value}
    (n : PySem.W.nsIn K mainGlobals "parts_of" = some (some (.ref a))) (l : K.lookup a = some ⟨oc, od, .func (PySem.W.fnOf "parts_of" "parts_of" (defArgs (topS 24)) (defBody (topS 24)) (defScope (topS 24)) .none kV dc pm an cd ct), sl⟩)
    (c : PySem.W.codeIn K cd "parts_of" = true) (k : PySem.W.keepIn K (.ref a) = true) : ∃ a fd, DefAt K mg sg "parts_of" f_parts_of a fd := by
  refine ⟨a, PySem.W.fnOf "parts_of" "parts_of" (defArgs (topS 24)) (defBody (topS 24)) (defScope (topS 24)) .none kV dc pm an cd ct, PySem.W.mg_of KX G n, ⟨topS 24, "parts_of", fun_mk l c k, scope_parts_of, look_parts_of⟩, fun s us hl => ?_, fun ks np perm hm => ?_⟩
  · match us, hl with
    | [_], _ => exact .of_eq rfl
  · have hm : (("parts_of" : Str), ks, np, perm) ∈ [(("is_saying" : Str), (["told", "k"] : List Str), (0 : Nat), ([1, 0] : List Nat)), (("free_sets" : Str), (["saying", "k"] : List Str), (0 : Nat), ([1, 0] : List Nat)), (("parts" : Str), (["saying", "k"] : List Str), (0 : Nat), ([1, 0] : List Nat))] := hm
    simp only [List.mem_cons, List.not_mem_nil, or_false, Prod.mk.injEq] at hm
    rcases hm with h | h | h
    · exact absurd h.1 (by decide)
    · exact absurd h.1 (by decide)
    · exact absurd h.1 (by decide)
theorem def_is_saying {K : PySem.W.Frag} {h : Heap} {mg : Str → Option Value} (KX : K.In h) (G : h.Ns mainGlobals mg) {a : Addr} {od an : Option Addr} {sl : Array (Option Value)} {oc kV dc pm cd ct : Value}
    (n : PySem.W.nsIn K mainGlobals "is_saying" = some (some (.ref a))) (l : K.lookup a = some ⟨oc, od, .func (PySem.W.fnOf "is_saying" "is_saying" (defArgs (topS 25)) (defBody (topS 25)) (defScope (topS 25)) .none kV dc pm an cd ct), sl⟩)
    (c : PySem.W.codeIn K cd "is_saying" = true) (k : PySem.W.keepIn K (.ref a) = true) : ∃ a fd, DefAt K mg sg "is_saying" f_is_saying a fd := by
  refine ⟨a, PySem.W.fnOf "is_saying" "is_saying" (defArgs (topS 25)) (defBody (topS 25)) (defScope (topS 25)) .none kV dc pm an cd ct, PySem.W.mg_of KX G n, ⟨topS 25, "is_saying", fun_mk l c k, scope_is_saying, look_is_saying⟩, fun s us hl => ?_, fun ks np perm hm => ?_⟩
  · match us, hl with
    | [_, _], _ => exact .of_eq rfl
  · have hm : (("is_saying" : Str), ks, np, perm) ∈ [(("is_saying" : Str), (["told", "k"] : List Str), (0 : Nat), ([1, 0] : List Nat)), (("free_sets" : Str), (["saying", "k"] : List Str), (0 : Nat), ([1, 0] : List Nat)), (("parts" : Str), (["saying", "k"] : List Str), (0 : Nat), ([1, 0] : List Nat))] := hm
    simp only [List.mem_cons, List.not_mem_nil, or_false, Prod.mk.injEq] at hm
    rcases hm with h | h | h
    · obtain ⟨_, rfl, rfl, rfl⟩ := h
      intro s us ws h1 h2
      match us, h1, ws, h2 with
      | [], _, [_, _], _ => exact .of_eq rfl
    · exact absurd h.1 (by decide)
    · exact absurd h.1 (by decide)
theorem def_free_sets {K : PySem.W.Frag} {h : Heap} {mg : Str → Option Value} (KX : K.In h) (G : h.Ns mainGlobals mg) {a : Addr} {od an : Option Addr} {sl : Array (Option Value)} {oc kV dc pm cd ct : Value}
    (n : PySem.W.nsIn K mainGlobals "free_sets" = some (some (.ref a))) (l : K.lookup a = some ⟨oc, od, .func (PySem.W.fnOf "free_sets" "free_sets" (defArgs (topS 26)) (defBody (topS 26)) (defScope (topS 26)) .none kV dc pm an cd ct), sl⟩)
    (c : PySem.W.codeIn K cd "free_sets" = true) (k : PySem.W.keepIn K (.ref a) = true) : ∃ a fd, DefAt K mg sg "free_sets" f_free_sets a fd := by
  refine ⟨a, PySem.W.fnOf "free_sets" "free_sets" (defArgs (topS 26)) (defBody (topS 26)) (defScope (topS 26)) .none kV dc pm an cd ct, PySem.W.mg_of KX G n, ⟨topS 26, "free_sets", fun_mk l c k, scope_free_sets, look_free_sets⟩, fun s us hl => ?_, fun ks np perm hm => ?_⟩
  · match us, hl with
    | [_, _], _ => exact .of_eq rfl
  · have hm : (("free_sets" : Str), ks, np, perm) ∈ [(("is_saying" : Str), (["told", "k"] : List Str), (0 : Nat), ([1, 0] : List Nat)), (("free_sets" : Str), (["saying", "k"] : List Str), (0 : Nat), ([1, 0] : List Nat)), (("parts" : Str), (["saying", "k"] : List Str), (0 : Nat), ([1, 0] : List Nat))] := hm
    simp only [List.mem_cons, List.not_mem_nil, or_false, Prod.mk.injEq] at hm
    rcases hm with h | h | h
    · exact absurd h.1 (by decide)
    · obtain ⟨_, rfl, rfl, rfl⟩ := h
      intro s us ws h1 h2
      match us, h1, ws, h2 with
      | [], _, [_, _], _ => exact .of_eq rfl
    · exact absurd h.1 (by decide)
theorem def_parts {K : PySem.W.Frag} {h : Heap} {mg : Str → Option Value} (KX : K.In h) (G : h.Ns mainGlobals mg) {a : Addr} {od an : Option Addr} {sl : Array (Option Value)} {oc kV dc pm cd ct : Value}
    (n : PySem.W.nsIn K mainGlobals "parts" = some (some (.ref a))) (l : K.lookup a = some ⟨oc, od, .func (PySem.W.fnOf "parts" "parts" (defArgs (topS 27)) (defBody (topS 27)) (defScope (topS 27)) .none kV dc pm an cd ct), sl⟩)
    (c : PySem.W.codeIn K cd "parts" = true) (k : PySem.W.keepIn K (.ref a) = true) : ∃ a fd, DefAt K mg sg "parts" f_parts a fd := by
  refine ⟨a, PySem.W.fnOf "parts" "parts" (defArgs (topS 27)) (defBody (topS 27)) (defScope (topS 27)) .none kV dc pm an cd ct, PySem.W.mg_of KX G n, ⟨topS 27, "parts", fun_mk l c k, scope_parts, look_parts⟩, fun s us hl => ?_, fun ks np perm hm => ?_⟩
  · match us, hl with
    | [_, _], _ => exact .of_eq rfl
  · have hm : (("parts" : Str), ks, np, perm) ∈ [(("is_saying" : Str), (["told", "k"] : List Str), (0 : Nat), ([1, 0] : List Nat)), (("free_sets" : Str), (["saying", "k"] : List Str), (0 : Nat), ([1, 0] : List Nat)), (("parts" : Str), (["saying", "k"] : List Str), (0 : Nat), ([1, 0] : List Nat))] := hm
    simp only [List.mem_cons, List.not_mem_nil, or_false, Prod.mk.injEq] at hm
    rcases hm with h | h | h
    · exact absurd h.1 (by decide)
    · exact absurd h.1 (by decide)
    · obtain ⟨_, rfl, rfl, rfl⟩ := h
      intro s us ws h1 h2
      match us, h1, ws, h2 with
      | [], _, [_, _], _ => exact .of_eq rfl
theorem def__law_mixed {K : PySem.W.Frag} {h : Heap} {mg : Str → Option Value} (KX : K.In h) (G : h.Ns mainGlobals mg) {a : Addr} {od an : Option Addr} {sl : Array (Option Value)} {oc kV dc pm cd ct : Value}
    (n : PySem.W.nsIn K mainGlobals "_law_mixed" = some (some (.ref a))) (l : K.lookup a = some ⟨oc, od, .func (PySem.W.fnOf "_law_mixed" "_law_mixed" (defArgs (topS 29)) (defBody (topS 29)) (defScope (topS 29)) .none kV dc pm an cd ct), sl⟩)
    (c : PySem.W.codeIn K cd "_law_mixed" = true) (k : PySem.W.keepIn K (.ref a) = true) : ∃ a fd, DefAt K mg sg "_law_mixed" f__law_mixed a fd := by
  refine ⟨a, PySem.W.fnOf "_law_mixed" "_law_mixed" (defArgs (topS 29)) (defBody (topS 29)) (defScope (topS 29)) .none kV dc pm an cd ct, PySem.W.mg_of KX G n, ⟨topS 29, "_law_mixed", fun_mk l c k, scope__law_mixed, look__law_mixed⟩, fun s us hl => ?_, fun ks np perm hm => ?_⟩
  · match us, hl with
    | [_, _], _ => exact .of_eq rfl
  · have hm : (("_law_mixed" : Str), ks, np, perm) ∈ [(("is_saying" : Str), (["told", "k"] : List Str), (0 : Nat), ([1, 0] : List Nat)), (("free_sets" : Str), (["saying", "k"] : List Str), (0 : Nat), ([1, 0] : List Nat)), (("parts" : Str), (["saying", "k"] : List Str), (0 : Nat), ([1, 0] : List Nat))] := hm
    simp only [List.mem_cons, List.not_mem_nil, or_false, Prod.mk.injEq] at hm
    rcases hm with h | h | h
    · exact absurd h.1 (by decide)
    · exact absurd h.1 (by decide)
    · exact absurd h.1 (by decide)
theorem def__law_source {K : PySem.W.Frag} {h : Heap} {mg : Str → Option Value} (KX : K.In h) (G : h.Ns mainGlobals mg) {a : Addr} {od an : Option Addr} {sl : Array (Option Value)} {oc kV dc pm cd ct : Value}
    (n : PySem.W.nsIn K mainGlobals "_law_source" = some (some (.ref a))) (l : K.lookup a = some ⟨oc, od, .func (PySem.W.fnOf "_law_source" "_law_source" (defArgs (topS 30)) (defBody (topS 30)) (defScope (topS 30)) .none kV dc pm an cd ct), sl⟩)
    (c : PySem.W.codeIn K cd "_law_source" = true) (k : PySem.W.keepIn K (.ref a) = true) : ∃ a fd, DefAt K mg sg "_law_source" f__law_source a fd := by
  refine ⟨a, PySem.W.fnOf "_law_source" "_law_source" (defArgs (topS 30)) (defBody (topS 30)) (defScope (topS 30)) .none kV dc pm an cd ct, PySem.W.mg_of KX G n, ⟨topS 30, "_law_source", fun_mk l c k, scope__law_source, look__law_source⟩, fun s us hl => ?_, fun ks np perm hm => ?_⟩
  · match us, hl with
    | [_], _ => exact .of_eq rfl
  · have hm : (("_law_source" : Str), ks, np, perm) ∈ [(("is_saying" : Str), (["told", "k"] : List Str), (0 : Nat), ([1, 0] : List Nat)), (("free_sets" : Str), (["saying", "k"] : List Str), (0 : Nat), ([1, 0] : List Nat)), (("parts" : Str), (["saying", "k"] : List Str), (0 : Nat), ([1, 0] : List Nat))] := hm
    simp only [List.mem_cons, List.not_mem_nil, or_false, Prod.mk.injEq] at hm
    rcases hm with h | h | h
    · exact absurd h.1 (by decide)
    · exact absurd h.1 (by decide)
    · exact absurd h.1 (by decide)
theorem def__law_draw {K : PySem.W.Frag} {h : Heap} {mg : Str → Option Value} (KX : K.In h) (G : h.Ns mainGlobals mg) {a : Addr} {od an : Option Addr} {sl : Array (Option Value)} {oc kV dc pm cd ct : Value}
    (n : PySem.W.nsIn K mainGlobals "_law_draw" = some (some (.ref a))) (l : K.lookup a = some ⟨oc, od, .func (PySem.W.fnOf "_law_draw" "_law_draw" (defArgs (topS 31)) (defBody (topS 31)) (defScope (topS 31)) .none kV dc pm an cd ct), sl⟩)
    (c : PySem.W.codeIn K cd "_law_draw" = true) (k : PySem.W.keepIn K (.ref a) = true) : ∃ a fd, DefAt K mg sg "_law_draw" f__law_draw a fd := by
  refine ⟨a, PySem.W.fnOf "_law_draw" "_law_draw" (defArgs (topS 31)) (defBody (topS 31)) (defScope (topS 31)) .none kV dc pm an cd ct, PySem.W.mg_of KX G n, ⟨topS 31, "_law_draw", fun_mk l c k, scope__law_draw, look__law_draw⟩, fun s us hl => ?_, fun ks np perm hm => ?_⟩
  · match us, hl with
    | [_, _], _ => exact .of_eq rfl
  · have hm : (("_law_draw" : Str), ks, np, perm) ∈ [(("is_saying" : Str), (["told", "k"] : List Str), (0 : Nat), ([1, 0] : List Nat)), (("free_sets" : Str), (["saying", "k"] : List Str), (0 : Nat), ([1, 0] : List Nat)), (("parts" : Str), (["saying", "k"] : List Str), (0 : Nat), ([1, 0] : List Nat))] := hm
    simp only [List.mem_cons, List.not_mem_nil, or_false, Prod.mk.injEq] at hm
    rcases hm with h | h | h
    · exact absurd h.1 (by decide)
    · exact absurd h.1 (by decide)
    · exact absurd h.1 (by decide)
theorem def__law_atom {K : PySem.W.Frag} {h : Heap} {mg : Str → Option Value} (KX : K.In h) (G : h.Ns mainGlobals mg) {a : Addr} {od an : Option Addr} {sl : Array (Option Value)} {oc kV dc pm cd ct : Value}
    (n : PySem.W.nsIn K mainGlobals "_law_atom" = some (some (.ref a))) (l : K.lookup a = some ⟨oc, od, .func (PySem.W.fnOf "_law_atom" "_law_atom" (defArgs (topS 32)) (defBody (topS 32)) (defScope (topS 32)) .none kV dc pm an cd ct), sl⟩)
    (c : PySem.W.codeIn K cd "_law_atom" = true) (k : PySem.W.keepIn K (.ref a) = true) : ∃ a fd, DefAt K mg sg "_law_atom" f__law_atom a fd := by
  refine ⟨a, PySem.W.fnOf "_law_atom" "_law_atom" (defArgs (topS 32)) (defBody (topS 32)) (defScope (topS 32)) .none kV dc pm an cd ct, PySem.W.mg_of KX G n, ⟨topS 32, "_law_atom", fun_mk l c k, scope__law_atom, look__law_atom⟩, fun s us hl => ?_, fun ks np perm hm => ?_⟩
  · match us, hl with
    | [_, _], _ => exact .of_eq rfl
  · have hm : (("_law_atom" : Str), ks, np, perm) ∈ [(("is_saying" : Str), (["told", "k"] : List Str), (0 : Nat), ([1, 0] : List Nat)), (("free_sets" : Str), (["saying", "k"] : List Str), (0 : Nat), ([1, 0] : List Nat)), (("parts" : Str), (["saying", "k"] : List Str), (0 : Nat), ([1, 0] : List Nat))] := hm
    simp only [List.mem_cons, List.not_mem_nil, or_false, Prod.mk.injEq] at hm
    rcases hm with h | h | h
    · exact absurd h.1 (by decide)
    · exact absurd h.1 (by decide)
    · exact absurd h.1 (by decide)
theorem def__law_saying {K : PySem.W.Frag} {h : Heap} {mg : Str → Option Value} (KX : K.In h) (G : h.Ns mainGlobals mg) {a : Addr} {od an : Option Addr} {sl : Array (Option Value)} {oc kV dc pm cd ct : Value}
    (n : PySem.W.nsIn K mainGlobals "_law_saying" = some (some (.ref a))) (l : K.lookup a = some ⟨oc, od, .func (PySem.W.fnOf "_law_saying" "_law_saying" (defArgs (topS 33)) (defBody (topS 33)) (defScope (topS 33)) .none kV dc pm an cd ct), sl⟩)
    (c : PySem.W.codeIn K cd "_law_saying" = true) (k : PySem.W.keepIn K (.ref a) = true) : ∃ a fd, DefAt K mg sg "_law_saying" f__law_saying a fd := by
  refine ⟨a, PySem.W.fnOf "_law_saying" "_law_saying" (defArgs (topS 33)) (defBody (topS 33)) (defScope (topS 33)) .none kV dc pm an cd ct, PySem.W.mg_of KX G n, ⟨topS 33, "_law_saying", fun_mk l c k, scope__law_saying, look__law_saying⟩, fun s us hl => ?_, fun ks np perm hm => ?_⟩
  · match us, hl with
    | [_, _, _, _, _, _], _ => exact .of_eq rfl
  · have hm : (("_law_saying" : Str), ks, np, perm) ∈ [(("is_saying" : Str), (["told", "k"] : List Str), (0 : Nat), ([1, 0] : List Nat)), (("free_sets" : Str), (["saying", "k"] : List Str), (0 : Nat), ([1, 0] : List Nat)), (("parts" : Str), (["saying", "k"] : List Str), (0 : Nat), ([1, 0] : List Nat))] := hm
    simp only [List.mem_cons, List.not_mem_nil, or_false, Prod.mk.injEq] at hm
    rcases hm with h | h | h
    · exact absurd h.1 (by decide)
    · exact absurd h.1 (by decide)
    · exact absurd h.1 (by decide)
theorem def__law_named {K : PySem.W.Frag} {h : Heap} {mg : Str → Option Value} (KX : K.In h) (G : h.Ns mainGlobals mg) {a : Addr} {od an : Option Addr} {sl : Array (Option Value)} {oc kV dc pm cd ct : Value}
    (n : PySem.W.nsIn K mainGlobals "_law_named" = some (some (.ref a))) (l : K.lookup a = some ⟨oc, od, .func (PySem.W.fnOf "_law_named" "_law_named" (defArgs (topS 34)) (defBody (topS 34)) (defScope (topS 34)) .none kV dc pm an cd ct), sl⟩)
    (c : PySem.W.codeIn K cd "_law_named" = true) (k : PySem.W.keepIn K (.ref a) = true) : ∃ a fd, DefAt K mg sg "_law_named" f__law_named a fd := by
  refine ⟨a, PySem.W.fnOf "_law_named" "_law_named" (defArgs (topS 34)) (defBody (topS 34)) (defScope (topS 34)) .none kV dc pm an cd ct, PySem.W.mg_of KX G n, ⟨topS 34, "_law_named", fun_mk l c k, scope__law_named, look__law_named⟩, fun s us hl => ?_, fun ks np perm hm => ?_⟩
  · match us, hl with
    | [_], _ => exact .of_eq rfl
  · have hm : (("_law_named" : Str), ks, np, perm) ∈ [(("is_saying" : Str), (["told", "k"] : List Str), (0 : Nat), ([1, 0] : List Nat)), (("free_sets" : Str), (["saying", "k"] : List Str), (0 : Nat), ([1, 0] : List Nat)), (("parts" : Str), (["saying", "k"] : List Str), (0 : Nat), ([1, 0] : List Nat))] := hm
    simp only [List.mem_cons, List.not_mem_nil, or_false, Prod.mk.injEq] at hm
    rcases hm with h | h | h
    · exact absurd h.1 (by decide)
    · exact absurd h.1 (by decide)
    · exact absurd h.1 (by decide)
theorem def__law_free {K : PySem.W.Frag} {h : Heap} {mg : Str → Option Value} (KX : K.In h) (G : h.Ns mainGlobals mg) {a : Addr} {od an : Option Addr} {sl : Array (Option Value)} {oc kV dc pm cd ct : Value}
    (n : PySem.W.nsIn K mainGlobals "_law_free" = some (some (.ref a))) (l : K.lookup a = some ⟨oc, od, .func (PySem.W.fnOf "_law_free" "_law_free" (defArgs (topS 35)) (defBody (topS 35)) (defScope (topS 35)) .none kV dc pm an cd ct), sl⟩)
    (c : PySem.W.codeIn K cd "_law_free" = true) (k : PySem.W.keepIn K (.ref a) = true) : ∃ a fd, DefAt K mg sg "_law_free" f__law_free a fd := by
  refine ⟨a, PySem.W.fnOf "_law_free" "_law_free" (defArgs (topS 35)) (defBody (topS 35)) (defScope (topS 35)) .none kV dc pm an cd ct, PySem.W.mg_of KX G n, ⟨topS 35, "_law_free", fun_mk l c k, scope__law_free, look__law_free⟩, fun s us hl => ?_, fun ks np perm hm => ?_⟩
  · match us, hl with
    | [_], _ => exact .of_eq rfl
  · have hm : (("_law_free" : Str), ks, np, perm) ∈ [(("is_saying" : Str), (["told", "k"] : List Str), (0 : Nat), ([1, 0] : List Nat)), (("free_sets" : Str), (["saying", "k"] : List Str), (0 : Nat), ([1, 0] : List Nat)), (("parts" : Str), (["saying", "k"] : List Str), (0 : Nat), ([1, 0] : List Nat))] := hm
    simp only [List.mem_cons, List.not_mem_nil, or_false, Prod.mk.injEq] at hm
    rcases hm with h | h | h
    · exact absurd h.1 (by decide)
    · exact absurd h.1 (by decide)
    · exact absurd h.1 (by decide)
theorem def__law_bad_number {K : PySem.W.Frag} {h : Heap} {mg : Str → Option Value} (KX : K.In h) (G : h.Ns mainGlobals mg) {a : Addr} {od an : Option Addr} {sl : Array (Option Value)} {oc kV dc pm cd ct : Value}
    (n : PySem.W.nsIn K mainGlobals "_law_bad_number" = some (some (.ref a))) (l : K.lookup a = some ⟨oc, od, .func (PySem.W.fnOf "_law_bad_number" "_law_bad_number" (defArgs (topS 36)) (defBody (topS 36)) (defScope (topS 36)) .none kV dc pm an cd ct), sl⟩)
    (c : PySem.W.codeIn K cd "_law_bad_number" = true) (k : PySem.W.keepIn K (.ref a) = true) : ∃ a fd, DefAt K mg sg "_law_bad_number" f__law_bad_number a fd := by
  refine ⟨a, PySem.W.fnOf "_law_bad_number" "_law_bad_number" (defArgs (topS 36)) (defBody (topS 36)) (defScope (topS 36)) .none kV dc pm an cd ct, PySem.W.mg_of KX G n, ⟨topS 36, "_law_bad_number", fun_mk l c k, scope__law_bad_number, look__law_bad_number⟩, fun s us hl => ?_, fun ks np perm hm => ?_⟩
  · match us, hl with
    | [_], _ => exact .of_eq rfl
  · have hm : (("_law_bad_number" : Str), ks, np, perm) ∈ [(("is_saying" : Str), (["told", "k"] : List Str), (0 : Nat), ([1, 0] : List Nat)), (("free_sets" : Str), (["saying", "k"] : List Str), (0 : Nat), ([1, 0] : List Nat)), (("parts" : Str), (["saying", "k"] : List Str), (0 : Nat), ([1, 0] : List Nat))] := hm
    simp only [List.mem_cons, List.not_mem_nil, or_false, Prod.mk.injEq] at hm
    rcases hm with h | h | h
    · exact absurd h.1 (by decide)
    · exact absurd h.1 (by decide)
    · exact absurd h.1 (by decide)
theorem def__law_odd {K : PySem.W.Frag} {h : Heap} {mg : Str → Option Value} (KX : K.In h) (G : h.Ns mainGlobals mg) {a : Addr} {od an : Option Addr} {sl : Array (Option Value)} {oc kV dc pm cd ct : Value}
    (n : PySem.W.nsIn K mainGlobals "_law_odd" = some (some (.ref a))) (l : K.lookup a = some ⟨oc, od, .func (PySem.W.fnOf "_law_odd" "_law_odd" (defArgs (topS 37)) (defBody (topS 37)) (defScope (topS 37)) .none kV dc pm an cd ct), sl⟩)
    (c : PySem.W.codeIn K cd "_law_odd" = true) (k : PySem.W.keepIn K (.ref a) = true) : ∃ a fd, DefAt K mg sg "_law_odd" f__law_odd a fd := by
  refine ⟨a, PySem.W.fnOf "_law_odd" "_law_odd" (defArgs (topS 37)) (defBody (topS 37)) (defScope (topS 37)) .none kV dc pm an cd ct, PySem.W.mg_of KX G n, ⟨topS 37, "_law_odd", fun_mk l c k, scope__law_odd, look__law_odd⟩, fun s us hl => ?_, fun ks np perm hm => ?_⟩
  · match us, hl with
    | [_, _], _ => exact .of_eq rfl
  · have hm : (("_law_odd" : Str), ks, np, perm) ∈ [(("is_saying" : Str), (["told", "k"] : List Str), (0 : Nat), ([1, 0] : List Nat)), (("free_sets" : Str), (["saying", "k"] : List Str), (0 : Nat), ([1, 0] : List Nat)), (("parts" : Str), (["saying", "k"] : List Str), (0 : Nat), ([1, 0] : List Nat))] := hm
    simp only [List.mem_cons, List.not_mem_nil, or_false, Prod.mk.injEq] at hm
    rcases hm with h | h | h
    · exact absurd h.1 (by decide)
    · exact absurd h.1 (by decide)
    · exact absurd h.1 (by decide)
theorem def__law_word {K : PySem.W.Frag} {h : Heap} {mg : Str → Option Value} (KX : K.In h) (G : h.Ns mainGlobals mg) {a : Addr} {od an : Option Addr} {sl : Array (Option Value)} {oc kV dc pm cd ct : Value}
    (n : PySem.W.nsIn K mainGlobals "_law_word" = some (some (.ref a))) (l : K.lookup a = some ⟨oc, od, .func (PySem.W.fnOf "_law_word" "_law_word" (defArgs (topS 38)) (defBody (topS 38)) (defScope (topS 38)) .none kV dc pm an cd ct), sl⟩)
    (c : PySem.W.codeIn K cd "_law_word" = true) (k : PySem.W.keepIn K (.ref a) = true) : ∃ a fd, DefAt K mg sg "_law_word" f__law_word a fd := by
  refine ⟨a, PySem.W.fnOf "_law_word" "_law_word" (defArgs (topS 38)) (defBody (topS 38)) (defScope (topS 38)) .none kV dc pm an cd ct, PySem.W.mg_of KX G n, ⟨topS 38, "_law_word", fun_mk l c k, scope__law_word, look__law_word⟩, fun s us hl => ?_, fun ks np perm hm => ?_⟩
  · match us, hl with
    | [_], _ => exact .of_eq rfl
  · have hm : (("_law_word" : Str), ks, np, perm) ∈ [(("is_saying" : Str), (["told", "k"] : List Str), (0 : Nat), ([1, 0] : List Nat)), (("free_sets" : Str), (["saying", "k"] : List Str), (0 : Nat), ([1, 0] : List Nat)), (("parts" : Str), (["saying", "k"] : List Str), (0 : Nat), ([1, 0] : List Nat))] := hm
    simp only [List.mem_cons, List.not_mem_nil, or_false, Prod.mk.injEq] at hm
    rcases hm with h | h | h
    · exact absurd h.1 (by decide)
    · exact absurd h.1 (by decide)
    · exact absurd h.1 (by decide)
theorem def__law_spoilt {K : PySem.W.Frag} {h : Heap} {mg : Str → Option Value} (KX : K.In h) (G : h.Ns mainGlobals mg) {a : Addr} {od an : Option Addr} {sl : Array (Option Value)} {oc kV dc pm cd ct : Value}
    (n : PySem.W.nsIn K mainGlobals "_law_spoilt" = some (some (.ref a))) (l : K.lookup a = some ⟨oc, od, .func (PySem.W.fnOf "_law_spoilt" "_law_spoilt" (defArgs (topS 39)) (defBody (topS 39)) (defScope (topS 39)) .none kV dc pm an cd ct), sl⟩)
    (c : PySem.W.codeIn K cd "_law_spoilt" = true) (k : PySem.W.keepIn K (.ref a) = true) : ∃ a fd, DefAt K mg sg "_law_spoilt" f__law_spoilt a fd := by
  refine ⟨a, PySem.W.fnOf "_law_spoilt" "_law_spoilt" (defArgs (topS 39)) (defBody (topS 39)) (defScope (topS 39)) .none kV dc pm an cd ct, PySem.W.mg_of KX G n, ⟨topS 39, "_law_spoilt", fun_mk l c k, scope__law_spoilt, look__law_spoilt⟩, fun s us hl => ?_, fun ks np perm hm => ?_⟩
  · match us, hl with
    | [_, _, _], _ => exact .of_eq rfl
  · have hm : (("_law_spoilt" : Str), ks, np, perm) ∈ [(("is_saying" : Str), (["told", "k"] : List Str), (0 : Nat), ([1, 0] : List Nat)), (("free_sets" : Str), (["saying", "k"] : List Str), (0 : Nat), ([1, 0] : List Nat)), (("parts" : Str), (["saying", "k"] : List Str), (0 : Nat), ([1, 0] : List Nat))] := hm
    simp only [List.mem_cons, List.not_mem_nil, or_false, Prod.mk.injEq] at hm
    rcases hm with h | h | h
    · exact absurd h.1 (by decide)
    · exact absurd h.1 (by decide)
    · exact absurd h.1 (by decide)
theorem def__law_below {K : PySem.W.Frag} {h : Heap} {mg : Str → Option Value} (KX : K.In h) (G : h.Ns mainGlobals mg) {a : Addr} {od an : Option Addr} {sl : Array (Option Value)} {oc kV dc pm cd ct : Value}
    (n : PySem.W.nsIn K mainGlobals "_law_below" = some (some (.ref a))) (l : K.lookup a = some ⟨oc, od, .func (PySem.W.fnOf "_law_below" "_law_below" (defArgs (topS 40)) (defBody (topS 40)) (defScope (topS 40)) .none kV dc pm an cd ct), sl⟩)
    (c : PySem.W.codeIn K cd "_law_below" = true) (k : PySem.W.keepIn K (.ref a) = true) : ∃ a fd, DefAt K mg sg "_law_below" f__law_below a fd := by
  refine ⟨a, PySem.W.fnOf "_law_below" "_law_below" (defArgs (topS 40)) (defBody (topS 40)) (defScope (topS 40)) .none kV dc pm an cd ct, PySem.W.mg_of KX G n, ⟨topS 40, "_law_below", fun_mk l c k, scope__law_below, look__law_below⟩, fun s us hl => ?_, fun ks np perm hm => ?_⟩
  · match us, hl with
    | [_, _], _ => exact .of_eq rfl
  · have hm : (("_law_below" : Str), ks, np, perm) ∈ [(("is_saying" : Str), (["told", "k"] : List Str), (0 : Nat), ([1, 0] : List Nat)), (("free_sets" : Str), (["saying", "k"] : List Str), (0 : Nat), ([1, 0] : List Nat)), (("parts" : Str), (["saying", "k"] : List Str), (0 : Nat), ([1, 0] : List Nat))] := hm
    simp only [List.mem_cons, List.not_mem_nil, or_false, Prod.mk.injEq] at hm
    rcases hm with h | h | h
    · exact absurd h.1 (by decide)
    · exact absurd h.1 (by decide)
    · exact absurd h.1 (by decide)
theorem def__law_is_right {K : PySem.W.Frag} {h : Heap} {mg : Str → Option Value} (KX : K.In h) (G : h.Ns mainGlobals mg) {a : Addr} {od an : Option Addr} {sl : Array (Option Value)} {oc kV dc pm cd ct : Value}
    (n : PySem.W.nsIn K mainGlobals "_law_is_right" = some (some (.ref a))) (l : K.lookup a = some ⟨oc, od, .func (PySem.W.fnOf "_law_is_right" "_law_is_right" (defArgs (topS 41)) (defBody (topS 41)) (defScope (topS 41)) .none kV dc pm an cd ct), sl⟩)
    (c : PySem.W.codeIn K cd "_law_is_right" = true) (k : PySem.W.keepIn K (.ref a) = true) : ∃ a fd, DefAt K mg sg "_law_is_right" f__law_is_right a fd := by
  refine ⟨a, PySem.W.fnOf "_law_is_right" "_law_is_right" (defArgs (topS 41)) (defBody (topS 41)) (defScope (topS 41)) .none kV dc pm an cd ct, PySem.W.mg_of KX G n, ⟨topS 41, "_law_is_right", fun_mk l c k, scope__law_is_right, look__law_is_right⟩, fun s us hl => ?_, fun ks np perm hm => ?_⟩
  · match us, hl with
    | [_, _], _ => exact .of_eq rfl
  · have hm : (("_law_is_right" : Str), ks, np, perm) ∈ [(("is_saying" : Str), (["told", "k"] : List Str), (0 : Nat), ([1, 0] : List Nat)), (("free_sets" : Str), (["saying", "k"] : List Str), (0 : Nat), ([1, 0] : List Nat)), (("parts" : Str), (["saying", "k"] : List Str), (0 : Nat), ([1, 0] : List Nat))] := hm
    simp only [List.mem_cons, List.not_mem_nil, or_false, Prod.mk.injEq] at hm
    rcases hm with h | h | h
    · exact absurd h.1 (by decide)
    · exact absurd h.1 (by decide)
    · exact absurd h.1 (by decide)
theorem def__law_parts {K : PySem.W.Frag} {h : Heap} {mg : Str → Option Value} (KX : K.In h) (G : h.Ns mainGlobals mg) {a : Addr} {od an : Option Addr} {sl : Array (Option Value)} {oc kV dc pm cd ct : Value}
    (n : PySem.W.nsIn K mainGlobals "_law_parts" = some (some (.ref a))) (l : K.lookup a = some ⟨oc, od, .func (PySem.W.fnOf "_law_parts" "_law_parts" (defArgs (topS 42)) (defBody (topS 42)) (defScope (topS 42)) .none kV dc pm an cd ct), sl⟩)
    (c : PySem.W.codeIn K cd "_law_parts" = true) (k : PySem.W.keepIn K (.ref a) = true) : ∃ a fd, DefAt K mg sg "_law_parts" f__law_parts a fd := by
  refine ⟨a, PySem.W.fnOf "_law_parts" "_law_parts" (defArgs (topS 42)) (defBody (topS 42)) (defScope (topS 42)) .none kV dc pm an cd ct, PySem.W.mg_of KX G n, ⟨topS 42, "_law_parts", fun_mk l c k, scope__law_parts, look__law_parts⟩, fun s us hl => ?_, fun ks np perm hm => ?_⟩
  · match us, hl with
    | [_], _ => exact .of_eq rfl
  · have hm : (("_law_parts" : Str), ks, np, perm) ∈ [(("is_saying" : Str), (["told", "k"] : List Str), (0 : Nat), ([1, 0] : List Nat)), (("free_sets" : Str), (["saying", "k"] : List Str), (0 : Nat), ([1, 0] : List Nat)), (("parts" : Str), (["saying", "k"] : List Str), (0 : Nat), ([1, 0] : List Nat))] := hm
    simp only [List.mem_cons, List.not_mem_nil, or_false, Prod.mk.injEq] at hm
    rcases hm with h | h | h
    · exact absurd h.1 (by decide)
    · exact absurd h.1 (by decide)
    · exact absurd h.1 (by decide)
theorem def__law_is_told {K : PySem.W.Frag} {h : Heap} {mg : Str → Option Value} (KX : K.In h) (G : h.Ns mainGlobals mg) {a : Addr} {od an : Option Addr} {sl : Array (Option Value)} {oc kV dc pm cd ct : Value}
    (n : PySem.W.nsIn K mainGlobals "_law_is_told" = some (some (.ref a))) (l : K.lookup a = some ⟨oc, od, .func (PySem.W.fnOf "_law_is_told" "_law_is_told" (defArgs (topS 43)) (defBody (topS 43)) (defScope (topS 43)) .none kV dc pm an cd ct), sl⟩)
    (c : PySem.W.codeIn K cd "_law_is_told" = true) (k : PySem.W.keepIn K (.ref a) = true) : ∃ a fd, DefAt K mg sg "_law_is_told" f__law_is_told a fd := by
  refine ⟨a, PySem.W.fnOf "_law_is_told" "_law_is_told" (defArgs (topS 43)) (defBody (topS 43)) (defScope (topS 43)) .none kV dc pm an cd ct, PySem.W.mg_of KX G n, ⟨topS 43, "_law_is_told", fun_mk l c k, scope__law_is_told, look__law_is_told⟩, fun s us hl => ?_, fun ks np perm hm => ?_⟩
  · match us, hl with
    | [_, _], _ => exact .of_eq rfl
  · have hm : (("_law_is_told" : Str), ks, np, perm) ∈ [(("is_saying" : Str), (["told", "k"] : List Str), (0 : Nat), ([1, 0] : List Nat)), (("free_sets" : Str), (["saying", "k"] : List Str), (0 : Nat), ([1, 0] : List Nat)), (("parts" : Str), (["saying", "k"] : List Str), (0 : Nat), ([1, 0] : List Nat))] := hm
    simp only [List.mem_cons, List.not_mem_nil, or_false, Prod.mk.injEq] at hm
    rcases hm with h | h | h
    · exact absurd h.1 (by decide)
    · exact absurd h.1 (by decide)
    · exact absurd h.1 (by decide)
theorem def__law_free_told {K : PySem.W.Frag} {h : Heap} {mg : Str → Option Value} (KX : K.In h) (G : h.Ns mainGlobals mg) {a : Addr} {od an : Option Addr} {sl : Array (Option Value)} {oc kV dc pm cd ct : Value}
    (n : PySem.W.nsIn K mainGlobals "_law_free_told" = some (some (.ref a))) (l : K.lookup a = some ⟨oc, od, .func (PySem.W.fnOf "_law_free_told" "_law_free_told" (defArgs (topS 44)) (defBody (topS 44)) (defScope (topS 44)) .none kV dc pm an cd ct), sl⟩)
    (c : PySem.W.codeIn K cd "_law_free_told" = true) (k : PySem.W.keepIn K (.ref a) = true) : ∃ a fd, DefAt K mg sg "_law_free_told" f__law_free_told a fd := by
  refine ⟨a, PySem.W.fnOf "_law_free_told" "_law_free_told" (defArgs (topS 44)) (defBody (topS 44)) (defScope (topS 44)) .none kV dc pm an cd ct, PySem.W.mg_of KX G n, ⟨topS 44, "_law_free_told", fun_mk l c k, scope__law_free_told, look__law_free_told⟩, fun s us hl => ?_, fun ks np perm hm => ?_⟩
  · match us, hl with
    | [_, _], _ => exact .of_eq rfl
  · have hm : (("_law_free_told" : Str), ks, np, perm) ∈ [(("is_saying" : Str), (["told", "k"] : List Str), (0 : Nat), ([1, 0] : List Nat)), (("free_sets" : Str), (["saying", "k"] : List Str), (0 : Nat), ([1, 0] : List Nat)), (("parts" : Str), (["saying", "k"] : List Str), (0 : Nat), ([1, 0] : List Nat))] := hm
    simp only [List.mem_cons, List.not_mem_nil, or_false, Prod.mk.injEq] at hm
    rcases hm with h | h | h
    · exact absurd h.1 (by decide)
    · exact absurd h.1 (by decide)
    · exact absurd h.1 (by decide)
theorem def__law_parts_told {K : PySem.W.Frag} {h : Heap} {mg : Str → Option Value} (KX : K.In h) (G : h.Ns mainGlobals mg) {a : Addr} {od an : Option Addr} {sl : Array (Option Value)} {oc kV dc pm cd ct : Value}
    (n : PySem.W.nsIn K mainGlobals "_law_parts_told" = some (some (.ref a))) (l : K.lookup a = some ⟨oc, od, .func (PySem.W.fnOf "_law_parts_told" "_law_parts_told" (defArgs (topS 45)) (defBody (topS 45)) (defScope (topS 45)) .none kV dc pm an cd ct), sl⟩)
    (c : PySem.W.codeIn K cd "_law_parts_told" = true) (k : PySem.W.keepIn K (.ref a) = true) : ∃ a fd, DefAt K mg sg "_law_parts_told" f__law_parts_told a fd := by
  refine ⟨a, PySem.W.fnOf "_law_parts_told" "_law_parts_told" (defArgs (topS 45)) (defBody (topS 45)) (defScope (topS 45)) .none kV dc pm an cd ct, PySem.W.mg_of KX G n, ⟨topS 45, "_law_parts_told", fun_mk l c k, scope__law_parts_told, look__law_parts_told⟩, fun s us hl => ?_, fun ks np perm hm => ?_⟩
  · match us, hl with
    | [_, _], _ => exact .of_eq rfl
  · have hm : (("_law_parts_told" : Str), ks, np, perm) ∈ [(("is_saying" : Str), (["told", "k"] : List Str), (0 : Nat), ([1, 0] : List Nat)), (("free_sets" : Str), (["saying", "k"] : List Str), (0 : Nat), ([1, 0] : List Nat)), (("parts" : Str), (["saying", "k"] : List Str), (0 : Nat), ([1, 0] : List Nat))] := hm
    simp only [List.mem_cons, List.not_mem_nil, or_false, Prod.mk.injEq] at hm
    rcases hm with h | h | h
    · exact absurd h.1 (by decide)
    · exact absurd h.1 (by decide)
    · exact absurd h.1 (by decide)
theorem def_law {K : PySem.W.Frag} {h : Heap} {mg : Str → Option Value} (KX : K.In h) (G : h.Ns mainGlobals mg) {a : Addr} {od an : Option Addr} {sl : Array (Option Value)} {oc kV dc pm cd ct : Value}
    (n : PySem.W.nsIn K mainGlobals "law" = some (some (.ref a))) (l : K.lookup a = some ⟨oc, od, .func (PySem.W.fnOf "law" "law" (defArgs (topS 46)) (defBody (topS 46)) (defScope (topS 46)) .none kV dc pm an cd ct), sl⟩)
    (c : PySem.W.codeIn K cd "law" = true) (k : PySem.W.keepIn K (.ref a) = true) : ∃ a fd, DefAt K mg sg "law" f_law a fd := by
  refine ⟨a, PySem.W.fnOf "law" "law" (defArgs (topS 46)) (defBody (topS 46)) (defScope (topS 46)) .none kV dc pm an cd ct, PySem.W.mg_of KX G n, ⟨topS 46, "law", fun_mk l c k, scope_law, look_law⟩, fun s us hl => ?_, fun ks np perm hm => ?_⟩
  · match us, hl with
    | [_], _ => exact .of_eq rfl
  · have hm : (("law" : Str), ks, np, perm) ∈ [(("is_saying" : Str), (["told", "k"] : List Str), (0 : Nat), ([1, 0] : List Nat)), (("free_sets" : Str), (["saying", "k"] : List Str), (0 : Nat), ([1, 0] : List Nat)), (("parts" : Str), (["saying", "k"] : List Str), (0 : Nat), ([1, 0] : List Nat))] := hm
    simp only [List.mem_cons, List.not_mem_nil, or_false, Prod.mk.injEq] at hm
    rcases hm with h | h | h
    · exact absurd h.1 (by decide)
    · exact absurd h.1 (by decide)
    · exact absurd h.1 (by decide)
theorem errs {K : PySem.W.Frag} {h : Heap} {mg : Str → Option Value} (KX : K.In h) (G : h.Ns mainGlobals mg)
    {fI : Addr} {ocI : Value} {odI : Option Addr} {kVI dcI pmI : Value} {anI : Option Addr} {cdI ctI : Value} {slI : Array (Option Value)}
    {C0 N0 : Addr} {nm0 q0 : Str} {bs0 : List Value} {sn0 : List Str} {sub0 : List Value} {ab0 : Bool} {col0 : Option Bool} {dd0 : Option Addr} {ka0 kb0 kc0 kd0 ke0 : Option Value}
    {C1 N1 : Addr} {nm1 q1 : Str} {bs1 : List Value} {sn1 : List Str} {sub1 : List Value} {ab1 : Bool} {col1 : Option Bool} {dd1 : Option Addr} {ka1 kb1 kc1 kd1 ke1 : Option Value}
    {C2 N2 : Addr} {nm2 q2 : Str} {bs2 : List Value} {sn2 : List Str} {sub2 : List Value} {ab2 : Bool} {col2 : Option Bool} {dd2 : Option Addr} {ka2 kb2 kc2 kd2 ke2 : Option Value}
    (aC0 : PySem.W.nsIn K mainGlobals "RowError" = some (some (.ref C0)))
    (aC1 : PySem.W.nsIn K mainGlobals "InvalidNumber" = some (some (.ref C1)))
    (aC2 : PySem.W.nsIn K mainGlobals "InvalidSaying" = some (some (.ref C2)))
    (xL0 : K.lookup C0 = some (excClassObj nm0 q0 C0 N0 bs0 [.type "ValueError", .type "Exception", .type "BaseException", .type "object"] true sn0 sub0 ab0 col0 dd0 ka0 kb0 kc0 kd0 ke0 "ValueError.__new__"))
    (xL1 : K.lookup C1 = some (excClassObj nm1 q1 C1 N1 bs1 [.ref C0, .type "ValueError", .type "Exception", .type "BaseException", .type "object"] true sn1 sub1 ab1 col1 dd1 ka1 kb1 kc1 kd1 ke1 "ValueError.__new__"))
    (xL2 : K.lookup C2 = some (excClassObj nm2 q2 C2 N2 bs2 [.ref C0, .type "ValueError", .type "Exception", .type "BaseException", .type "object"] true sn2 sub2 ab2 col2 dd2 ka2 kb2 kc2 kd2 ke2 "ValueError.__new__"))
    (iC0 : PySem.W.findIn K (.ref C0) "__init__" = some (some (.ref fI)))
    (iC1 : PySem.W.findIn K (.ref C1) "__init__" = some (some (.ref fI)))
    (iC2 : PySem.W.findIn K (.ref C2) "__init__" = some (some (.ref fI)))
    (li : K.lookup fI = some ⟨ocI, odI, .func (PySem.W.fnOf "__init__" "RowError.__init__" (defArgs initS) (defBody initS) (defScope initS) .none kVI dcI pmI anI cdI ctI), slI⟩)
    (ci : PySem.W.codeIn K cdI "RowError.__init__" = true)
    (ki : PySem.W.keepIn K (.ref fI) = true)
    (ti : PySem.W.typeIn K (.ref fI) = some (.type "function"))
    (vV : PySem.W.findCls K (.type "ValueError") (.type "type") "__init__" = some (.val (.builtin "ValueError.__init__")))
    (nV : PySem.W.nsIn K mainGlobals "ValueError" = some none)
    (eV : PySem.W.subIn K (.type "ValueError") (.type "BaseException") = some true)
    (cg : PySem.W.specialIn K (.builtin "object.__class__") "__get__" = some (some (.builtin "getset_descriptor.__get__")))
    (ct : PySem.W.takesIn K (.builtin "object.__class__") = some true)
    (sa0 : PySem.W.findIn K (.ref C0) "__setattr__" = some (some (.builtin "object.__setattr__")))
    (ga0 : PySem.W.findIn K (.ref C0) "__getattribute__" = some (some (.builtin "BaseException.__getattribute__")))
    (gg0 : PySem.W.findIn K (.ref C0) "__getattr__" = some none)
    (nv0 : PySem.W.findIn K (.ref C0) "value" = some none)
    (ca0 : PySem.W.findIn K (.ref C0) "__class__" = some (some (.builtin "object.__class__")))
    (kC0 : PySem.W.keepIn K (.ref C0) = true)
    (eC0 : PySem.W.subIn K (.ref C0) (.type "BaseException") = some true)
    (vC0 : PySem.W.subIn K (.ref C0) (.type "ValueError") = some true)
    (tC0 : PySem.W.typeIn K (.ref C0) = some (.type "type"))
    (hC0 : PySem.W.hasDictIn K C0 = true)
    (yC0 : PySem.W.isClsIn K C0 = true)
    (mC0 : PySem.W.mroIn K C0 (.type "object") = some true)
    (zC0 : PySem.W.subIn K (.type "NoneType") (.ref C0) = some false)
    (sa1 : PySem.W.findIn K (.ref C1) "__setattr__" = some (some (.builtin "object.__setattr__")))
    (ga1 : PySem.W.findIn K (.ref C1) "__getattribute__" = some (some (.builtin "BaseException.__getattribute__")))
    (gg1 : PySem.W.findIn K (.ref C1) "__getattr__" = some none)
    (nv1 : PySem.W.findIn K (.ref C1) "value" = some none)
    (ca1 : PySem.W.findIn K (.ref C1) "__class__" = some (some (.builtin "object.__class__")))
    (kC1 : PySem.W.keepIn K (.ref C1) = true)
    (eC1 : PySem.W.subIn K (.ref C1) (.type "BaseException") = some true)
    (vC1 : PySem.W.subIn K (.ref C1) (.type "ValueError") = some true)
    (tC1 : PySem.W.typeIn K (.ref C1) = some (.type "type"))
    (hC1 : PySem.W.hasDictIn K C1 = true)
    (yC1 : PySem.W.isClsIn K C1 = true)
    (mC1 : PySem.W.mroIn K C1 (.type "object") = some true)
    (zC1 : PySem.W.subIn K (.type "NoneType") (.ref C1) = some false)
    (sa2 : PySem.W.findIn K (.ref C2) "__setattr__" = some (some (.builtin "object.__setattr__")))
    (ga2 : PySem.W.findIn K (.ref C2) "__getattribute__" = some (some (.builtin "BaseException.__getattribute__")))
    (gg2 : PySem.W.findIn K (.ref C2) "__getattr__" = some none)
    (nv2 : PySem.W.findIn K (.ref C2) "value" = some none)
    (ca2 : PySem.W.findIn K (.ref C2) "__class__" = some (some (.builtin "object.__class__")))
    (kC2 : PySem.W.keepIn K (.ref C2) = true)
    (eC2 : PySem.W.subIn K (.ref C2) (.type "BaseException") = some true)
    (vC2 : PySem.W.subIn K (.ref C2) (.type "ValueError") = some true)
    (tC2 : PySem.W.typeIn K (.ref C2) = some (.type "type"))
    (hC2 : PySem.W.hasDictIn K C2 = true)
    (yC2 : PySem.W.isClsIn K C2 = true)
    (mC2 : PySem.W.mroIn K C2 (.type "object") = some true)
    (zC2 : PySem.W.subIn K (.type "NoneType") (.ref C2) = some false)
    (s0_0 : PySem.W.subIn K (.ref C0) (.ref C0) = some true)
    (s0_1 : PySem.W.subIn K (.ref C0) (.ref C1) = some false)
    (s0_2 : PySem.W.subIn K (.ref C0) (.ref C2) = some false)
    (s1_0 : PySem.W.subIn K (.ref C1) (.ref C0) = some true)
    (s1_1 : PySem.W.subIn K (.ref C1) (.ref C1) = some true)
    (s1_2 : PySem.W.subIn K (.ref C1) (.ref C2) = some false)
    (s2_0 : PySem.W.subIn K (.ref C2) (.ref C0) = some true)
    (s2_1 : PySem.W.subIn K (.ref C2) (.ref C1) = some false)
    (s2_2 : PySem.W.subIn K (.ref C2) (.ref C2) = some true)
    : ∀ c anc, sg.ecs.lookup c = some anc → ∃ C, EcAt K mg sg c anc C := by
  have made : ∃ fd, (∀ (P : Program) (w : World) (base : Heap), FnOk P w K mg base CX0 1 fI fd ["self", "value"] (spInit K)) ∧ Binds K fd ["self", "value"] [] :=
    ⟨_, fun P w base => init_keeps (fun_mk (st := initS) li ci ki) ⟨rfl, rfl, rfl, by decide +kernel, rfl, by decide +kernel, by decide +kernel⟩ (.inl rfl) (.inl rfl) rfl (PySem.W.mg_none_of KX G nV) vV rfl (fun _ => rfl),
      (fun_mk (st := initS) li ci ki).binds (ps := ["self", "value"]) fun _ _ _ _ _ _ us hl => match us, hl with | [_, _], _ => rfl⟩
  obtain ⟨fd, mk, bd⟩ := made
  intro c anc hl
  have hl : List.lookup c [(("RowError" : Str), (["RowError", "ValueError"] : List Str)), (("InvalidNumber" : Str), (["InvalidNumber", "RowError", "ValueError"] : List Str)), (("InvalidSaying" : Str), (["InvalidSaying", "RowError", "ValueError"] : List Str))] = some anc := hl
  simp only [List.lookup] at hl
  split at hl
  · rename_i he
    cases hl
    rw [beq_iff_eq] at he
    subst he
    refine ⟨C0, PySem.W.mg_of KX G aC0, ⟨⟨_, _, _, _, _, _, _, _, _, _, _, _, _, _, _, xL0, (by show PySem.HandSPX.refsVE [.type "ValueError", .type "Exception", .type "BaseException", .type "object"] = true; decide +kernel)⟩, sa0, eC0, tC0, kC0⟩, ⟨yC0, ga0, gg0, eC0, hC0, ca0, cg, ct, mC0, nv0⟩, isa_none yC0 tC0 zC0, fun x cv u z => ?_, fI, fd, iC0, ti, mk, bd⟩
    cases z with
    | ve h1 h2 =>
      subst h1
      exact isa_ve vC0 eV
    | @own l D h1 h2 =>
      have h1 : List.lookup x [(("RowError" : Str), (["RowError", "ValueError"] : List Str)), (("InvalidNumber" : Str), (["InvalidNumber", "RowError", "ValueError"] : List Str)), (("InvalidSaying" : Str), (["InvalidSaying", "RowError", "ValueError"] : List Str))] = some l := h1
      simp only [List.lookup] at h1
      split at h1
      · rename_i he2
        rw [beq_iff_eq] at he2
        subst he2
        have e := (PySem.W.mg_of KX G aC0).symm.trans h2
        cases e
        exact isa_of eC0 yC0 tC0 s0_0 s0_0
      split at h1
      · rename_i he2
        rw [beq_iff_eq] at he2
        subst he2
        have e := (PySem.W.mg_of KX G aC1).symm.trans h2
        cases e
        exact isa_of eC1 yC1 tC1 s0_1 s0_0
      split at h1
      · rename_i he2
        rw [beq_iff_eq] at he2
        subst he2
        have e := (PySem.W.mg_of KX G aC2).symm.trans h2
        cases e
        exact isa_of eC2 yC2 tC2 s0_2 s0_0
      cases h1
  split at hl
  · rename_i he
    cases hl
    rw [beq_iff_eq] at he
    subst he
    refine ⟨C1, PySem.W.mg_of KX G aC1, ⟨⟨_, _, _, _, _, _, _, _, _, _, _, _, _, _, _, xL1, (by show PySem.HandSPX.refsVE [.type "ValueError", .type "Exception", .type "BaseException", .type "object"] = true; decide +kernel)⟩, sa1, eC1, tC1, kC1⟩, ⟨yC1, ga1, gg1, eC1, hC1, ca1, cg, ct, mC1, nv1⟩, isa_none yC1 tC1 zC1, fun x cv u z => ?_, fI, fd, iC1, ti, mk, bd⟩
    cases z with
    | ve h1 h2 =>
      subst h1
      exact isa_ve vC1 eV
    | @own l D h1 h2 =>
      have h1 : List.lookup x [(("RowError" : Str), (["RowError", "ValueError"] : List Str)), (("InvalidNumber" : Str), (["InvalidNumber", "RowError", "ValueError"] : List Str)), (("InvalidSaying" : Str), (["InvalidSaying", "RowError", "ValueError"] : List Str))] = some l := h1
      simp only [List.lookup] at h1
      split at h1
      · rename_i he2
        rw [beq_iff_eq] at he2
        subst he2
        have e := (PySem.W.mg_of KX G aC0).symm.trans h2
        cases e
        exact isa_of eC0 yC0 tC0 s1_0 s1_1
      split at h1
      · rename_i he2
        rw [beq_iff_eq] at he2
        subst he2
        have e := (PySem.W.mg_of KX G aC1).symm.trans h2
        cases e
        exact isa_of eC1 yC1 tC1 s1_1 s1_1
      split at h1
      · rename_i he2
        rw [beq_iff_eq] at he2
        subst he2
        have e := (PySem.W.mg_of KX G aC2).symm.trans h2
        cases e
        exact isa_of eC2 yC2 tC2 s1_2 s1_1
      cases h1
  split at hl
  · rename_i he
    cases hl
    rw [beq_iff_eq] at he
    subst he
    refine ⟨C2, PySem.W.mg_of KX G aC2, ⟨⟨_, _, _, _, _, _, _, _, _, _, _, _, _, _, _, xL2, (by show PySem.HandSPX.refsVE [.type "ValueError", .type "Exception", .type "BaseException", .type "object"] = true; decide +kernel)⟩, sa2, eC2, tC2, kC2⟩, ⟨yC2, ga2, gg2, eC2, hC2, ca2, cg, ct, mC2, nv2⟩, isa_none yC2 tC2 zC2, fun x cv u z => ?_, fI, fd, iC2, ti, mk, bd⟩
    cases z with
    | ve h1 h2 =>
      subst h1
      exact isa_ve vC2 eV
    | @own l D h1 h2 =>
      have h1 : List.lookup x [(("RowError" : Str), (["RowError", "ValueError"] : List Str)), (("InvalidNumber" : Str), (["InvalidNumber", "RowError", "ValueError"] : List Str)), (("InvalidSaying" : Str), (["InvalidSaying", "RowError", "ValueError"] : List Str))] = some l := h1
      simp only [List.lookup] at h1
      split at h1
      · rename_i he2
        rw [beq_iff_eq] at he2
        subst he2
        have e := (PySem.W.mg_of KX G aC0).symm.trans h2
        cases e
        exact isa_of eC0 yC0 tC0 s2_0 s2_2
      split at h1
      · rename_i he2
        rw [beq_iff_eq] at he2
        subst he2
        have e := (PySem.W.mg_of KX G aC1).symm.trans h2
        cases e
        exact isa_of eC1 yC1 tC1 s2_1 s2_2
      split at h1
      · rename_i he2
        rw [beq_iff_eq] at he2
        subst he2
        have e := (PySem.W.mg_of KX G aC2).symm.trans h2
        cases e
        exact isa_of eC2 yC2 tC2 s2_2 s2_2
      cases h1
  cases hl
theorem glb_MOST_LETTERS {K : PySem.W.Frag} {h : Heap} {mg : Str → Option Value} (KX : K.In h) (G : h.Ns mainGlobals mg) {t_MOST_LETTERS : Tok}
    (g_MOST_LETTERS : PySem.W.nsIn K mainGlobals "MOST_LETTERS" = some (some (.int 4 t_MOST_LETTERS)))
    : ∃ u v, mg "MOST_LETTERS" = some u ∧ RelV v u ∧ ∀ F H r, Rep K F H r v gl_MOST_LETTERS := gl_int (PySem.W.mg_of KX G g_MOST_LETTERS)
theorem glb_MOST_SETS {K : PySem.W.Frag} {h : Heap} {mg : Str → Option Value} (KX : K.In h) (G : h.Ns mainGlobals mg) {t_MOST_SETS : Tok}
    (g_MOST_SETS : PySem.W.nsIn K mainGlobals "MOST_SETS" = some (some (.int 3 t_MOST_SETS)))
    : ∃ u v, mg "MOST_SETS" = some u ∧ RelV v u ∧ ∀ F H r, Rep K F H r v gl_MOST_SETS := gl_int (PySem.W.mg_of KX G g_MOST_SETS)
theorem glb_OF_ONE_SET {K : PySem.W.Frag} {h : Heap} {mg : Str → Option Value} (KX : K.In h) (G : h.Ns mainGlobals mg) {a_OF_ONE_SET : Addr} {od_OF_ONE_SET : Option Addr} {n_OF_ONE_SET : Nat} {sl_OF_ONE_SET : Array (Option Value)} {t0_OF_ONE_SET t1_OF_ONE_SET : Tok}
    (g_OF_ONE_SET : PySem.W.nsIn K mainGlobals "OF_ONE_SET" = some (some (.ref a_OF_ONE_SET)))
    (o_OF_ONE_SET : K.lookup a_OF_ONE_SET = some ⟨.type "tuple", od_OF_ONE_SET, .seq #[.str "empty" t0_OF_ONE_SET, .str "one" t1_OF_ONE_SET] n_OF_ONE_SET, sl_OF_ONE_SET⟩)
    : ∃ u v, mg "OF_ONE_SET" = some u ∧ RelV v u ∧ ∀ F H r, Rep K F H r v gl_OF_ONE_SET := gl_tup (vs := [.str "empty", .str "one"]) (PySem.W.mg_of KX G g_OF_ONE_SET) o_OF_ONE_SET rfl rfl (by show 2 ≤ sizeLine; decide) (.cons ⟨t0_OF_ONE_SET, rfl⟩ (.cons ⟨t1_OF_ONE_SET, rfl⟩ .nil)) fun F H r => (.cons (.str _) (.cons (.str _) .nil))
theorem glb_OF_TWO_SETS {K : PySem.W.Frag} {h : Heap} {mg : Str → Option Value} (KX : K.In h) (G : h.Ns mainGlobals mg) {a_OF_TWO_SETS : Addr} {od_OF_TWO_SETS : Option Addr} {n_OF_TWO_SETS : Nat} {sl_OF_TWO_SETS : Array (Option Value)} {t0_OF_TWO_SETS t1_OF_TWO_SETS t2_OF_TWO_SETS : Tok}
    (g_OF_TWO_SETS : PySem.W.nsIn K mainGlobals "OF_TWO_SETS" = some (some (.ref a_OF_TWO_SETS)))
    (o_OF_TWO_SETS : K.lookup a_OF_TWO_SETS = some ⟨.type "tuple", od_OF_TWO_SETS, .seq #[.str "in" t0_OF_TWO_SETS, .str "before" t1_OF_TWO_SETS, .str "next" t2_OF_TWO_SETS] n_OF_TWO_SETS, sl_OF_TWO_SETS⟩)
    : ∃ u v, mg "OF_TWO_SETS" = some u ∧ RelV v u ∧ ∀ F H r, Rep K F H r v gl_OF_TWO_SETS := gl_tup (vs := [.str "in", .str "before", .str "next"]) (PySem.W.mg_of KX G g_OF_TWO_SETS) o_OF_TWO_SETS rfl rfl (by show 3 ≤ sizeLine; decide) (.cons ⟨t0_OF_TWO_SETS, rfl⟩ (.cons ⟨t1_OF_TWO_SETS, rfl⟩ (.cons ⟨t2_OF_TWO_SETS, rfl⟩ .nil))) fun F H r => (.cons (.str _) (.cons (.str _) (.cons (.str _) .nil)))
theorem glb_OF_TWO_SAYINGS {K : PySem.W.Frag} {h : Heap} {mg : Str → Option Value} (KX : K.In h) (G : h.Ns mainGlobals mg) {a_OF_TWO_SAYINGS : Addr} {od_OF_TWO_SAYINGS : Option Addr} {n_OF_TWO_SAYINGS : Nat} {sl_OF_TWO_SAYINGS : Array (Option Value)} {t0_OF_TWO_SAYINGS t1_OF_TWO_SAYINGS : Tok}
    (g_OF_TWO_SAYINGS : PySem.W.nsIn K mainGlobals "OF_TWO_SAYINGS" = some (some (.ref a_OF_TWO_SAYINGS)))
    (o_OF_TWO_SAYINGS : K.lookup a_OF_TWO_SAYINGS = some ⟨.type "tuple", od_OF_TWO_SAYINGS, .seq #[.str "both" t0_OF_TWO_SAYINGS, .str "either" t1_OF_TWO_SAYINGS] n_OF_TWO_SAYINGS, sl_OF_TWO_SAYINGS⟩)
    : ∃ u v, mg "OF_TWO_SAYINGS" = some u ∧ RelV v u ∧ ∀ F H r, Rep K F H r v gl_OF_TWO_SAYINGS := gl_tup (vs := [.str "both", .str "either"]) (PySem.W.mg_of KX G g_OF_TWO_SAYINGS) o_OF_TWO_SAYINGS rfl rfl (by show 2 ≤ sizeLine; decide) (.cons ⟨t0_OF_TWO_SAYINGS, rfl⟩ (.cons ⟨t1_OF_TWO_SAYINGS, rfl⟩ .nil)) fun F H r => (.cons (.str _) (.cons (.str _) .nil))
theorem glb_OF_A_SET {K : PySem.W.Frag} {h : Heap} {mg : Str → Option Value} (KX : K.In h) (G : h.Ns mainGlobals mg) {a_OF_A_SET : Addr} {od_OF_A_SET : Option Addr} {n_OF_A_SET : Nat} {sl_OF_A_SET : Array (Option Value)} {t0_OF_A_SET t1_OF_A_SET t2_OF_A_SET t3_OF_A_SET : Tok}
    (g_OF_A_SET : PySem.W.nsIn K mainGlobals "OF_A_SET" = some (some (.ref a_OF_A_SET)))
    (o_OF_A_SET : K.lookup a_OF_A_SET = some ⟨.type "tuple", od_OF_A_SET, .seq #[.str "some" t0_OF_A_SET, .str "every" t1_OF_A_SET, .str "someone" t2_OF_A_SET, .str "each" t3_OF_A_SET] n_OF_A_SET, sl_OF_A_SET⟩)
    : ∃ u v, mg "OF_A_SET" = some u ∧ RelV v u ∧ ∀ F H r, Rep K F H r v gl_OF_A_SET := gl_tup (vs := [.str "some", .str "every", .str "someone", .str "each"]) (PySem.W.mg_of KX G g_OF_A_SET) o_OF_A_SET rfl rfl (by show 4 ≤ sizeLine; decide) (.cons ⟨t0_OF_A_SET, rfl⟩ (.cons ⟨t1_OF_A_SET, rfl⟩ (.cons ⟨t2_OF_A_SET, rfl⟩ (.cons ⟨t3_OF_A_SET, rfl⟩ .nil)))) fun F H r => (.cons (.str _) (.cons (.str _) (.cons (.str _) (.cons (.str _) .nil))))
theorem prg {K : PySem.W.Frag} {h : Heap} {mg : Str → Option Value} (KX : K.In h) (G : h.Ns mainGlobals mg)
    (d0 : ∃ a fd, DefAt K mg sg "is_integer" f_is_integer a fd)
    (d1 : ∃ a fd, DefAt K mg sg "is_between" f_is_between a fd)
    (d2 : ∃ a fd, DefAt K mg sg "check_letters" f_check_letters a fd)
    (d3 : ∃ a fd, DefAt K mg sg "is_set_name" f_is_set_name a fd)
    (d4 : ∃ a fd, DefAt K mg sg "are_names" f_are_names a fd)
    (d5 : ∃ a fd, DefAt K mg sg "must_be" f_must_be a fd)
    (d6 : ∃ a fd, DefAt K mg sg "is_saying_of" f_is_saying_of a fd)
    (d7 : ∃ a fd, DefAt K mg sg "check_saying" f_check_saying a fd)
    (d8 : ∃ a fd, DefAt K mg sg "inner_parts" f_inner_parts a fd)
    (d9 : ∃ a fd, DefAt K mg sg "is_atom" f_is_atom a fd)
    (d10 : ∃ a fd, DefAt K mg sg "free_of" f_free_of a fd)
    (d11 : ∃ a fd, DefAt K mg sg "parts_of" f_parts_of a fd)
    (d12 : ∃ a fd, DefAt K mg sg "is_saying" f_is_saying a fd)
    (d13 : ∃ a fd, DefAt K mg sg "free_sets" f_free_sets a fd)
    (d14 : ∃ a fd, DefAt K mg sg "parts" f_parts a fd)
    (d15 : ∃ a fd, DefAt K mg sg "_law_mixed" f__law_mixed a fd)
    (d16 : ∃ a fd, DefAt K mg sg "_law_source" f__law_source a fd)
    (d17 : ∃ a fd, DefAt K mg sg "_law_draw" f__law_draw a fd)
    (d18 : ∃ a fd, DefAt K mg sg "_law_atom" f__law_atom a fd)
    (d19 : ∃ a fd, DefAt K mg sg "_law_saying" f__law_saying a fd)
    (d20 : ∃ a fd, DefAt K mg sg "_law_named" f__law_named a fd)
    (d21 : ∃ a fd, DefAt K mg sg "_law_free" f__law_free a fd)
    (d22 : ∃ a fd, DefAt K mg sg "_law_bad_number" f__law_bad_number a fd)
    (d23 : ∃ a fd, DefAt K mg sg "_law_odd" f__law_odd a fd)
    (d24 : ∃ a fd, DefAt K mg sg "_law_word" f__law_word a fd)
    (d25 : ∃ a fd, DefAt K mg sg "_law_spoilt" f__law_spoilt a fd)
    (d26 : ∃ a fd, DefAt K mg sg "_law_below" f__law_below a fd)
    (d27 : ∃ a fd, DefAt K mg sg "_law_is_right" f__law_is_right a fd)
    (d28 : ∃ a fd, DefAt K mg sg "_law_parts" f__law_parts a fd)
    (d29 : ∃ a fd, DefAt K mg sg "_law_is_told" f__law_is_told a fd)
    (d30 : ∃ a fd, DefAt K mg sg "_law_free_told" f__law_free_told a fd)
    (d31 : ∃ a fd, DefAt K mg sg "_law_parts_told" f__law_parts_told a fd)
    (d32 : ∃ a fd, DefAt K mg sg "law" f_law a fd)
    (z0 : PySem.W.nsIn K mainGlobals "isinstance" = some none)
    (z1 : PySem.W.nsIn K mainGlobals "bool" = some none)
    (z2 : PySem.W.nsIn K mainGlobals "int" = some none)
    (z3 : PySem.W.nsIn K mainGlobals "len" = some none)
    (z4 : PySem.W.nsIn K mainGlobals "str" = some none)
    (z5 : PySem.W.nsIn K mainGlobals "tuple" = some none)
    (z6 : PySem.W.nsIn K mainGlobals "sorted" = some none)
    (z7 : PySem.W.nsIn K mainGlobals "list" = some none)
    (z8 : PySem.W.nsIn K mainGlobals "range" = some none)
    (z9 : PySem.W.nsIn K mainGlobals "repr" = some none)
    (u_MOST_LETTERS : ∃ u v, mg "MOST_LETTERS" = some u ∧ RelV v u ∧ ∀ F H r, Rep K F H r v gl_MOST_LETTERS)
    (u_MOST_SETS : ∃ u v, mg "MOST_SETS" = some u ∧ RelV v u ∧ ∀ F H r, Rep K F H r v gl_MOST_SETS)
    (u_OF_ONE_SET : ∃ u v, mg "OF_ONE_SET" = some u ∧ RelV v u ∧ ∀ F H r, Rep K F H r v gl_OF_ONE_SET)
    (u_OF_TWO_SETS : ∃ u v, mg "OF_TWO_SETS" = some u ∧ RelV v u ∧ ∀ F H r, Rep K F H r v gl_OF_TWO_SETS)
    (u_OF_TWO_SAYINGS : ∃ u v, mg "OF_TWO_SAYINGS" = some u ∧ RelV v u ∧ ∀ F H r, Rep K F H r v gl_OF_TWO_SAYINGS)
    (u_OF_A_SET : ∃ u v, mg "OF_A_SET" = some u ∧ RelV v u ∧ ∀ F H r, Rep K F H r v gl_OF_A_SET)
    (er : ∀ c anc, sg.ecs.lookup c = some anc → ∃ C, EcAt K mg sg c anc C)
    : Prg K mg sg := by
  refine ⟨fun f fn hl => ?_, fun x p hx => ?_, fun x hx => ?_, er, rfl⟩
  · have hl : List.lookup f [(("is_integer" : Str), f_is_integer), (("is_between" : Str), f_is_between), (("check_letters" : Str), f_check_letters), (("is_set_name" : Str), f_is_set_name), (("are_names" : Str), f_are_names), (("must_be" : Str), f_must_be), (("is_saying_of" : Str), f_is_saying_of), (("check_saying" : Str), f_check_saying), (("inner_parts" : Str), f_inner_parts), (("is_atom" : Str), f_is_atom), (("free_of" : Str), f_free_of), (("parts_of" : Str), f_parts_of), (("is_saying" : Str), f_is_saying), (("free_sets" : Str), f_free_sets), (("parts" : Str), f_parts), (("_law_mixed" : Str), f__law_mixed), (("_law_source" : Str), f__law_source), (("_law_draw" : Str), f__law_draw), (("_law_atom" : Str), f__law_atom), (("_law_saying" : Str), f__law_saying), (("_law_named" : Str), f__law_named), (("_law_free" : Str), f__law_free), (("_law_bad_number" : Str), f__law_bad_number), (("_law_odd" : Str), f__law_odd), (("_law_word" : Str), f__law_word), (("_law_spoilt" : Str), f__law_spoilt), (("_law_below" : Str), f__law_below), (("_law_is_right" : Str), f__law_is_right), (("_law_parts" : Str), f__law_parts), (("_law_is_told" : Str), f__law_is_told), (("_law_free_told" : Str), f__law_free_told), (("_law_parts_told" : Str), f__law_parts_told), (("law" : Str), f_law)] = some fn := hl
    simp only [List.lookup] at hl
    split at hl
    · rename_i he
      cases hl
      rw [beq_iff_eq] at he
      subst he
      exact d0
    split at hl
    · rename_i he
      cases hl
      rw [beq_iff_eq] at he
      subst he
      exact d1
    split at hl
    · rename_i he
      cases hl
      rw [beq_iff_eq] at he
      subst he
      exact d2
    split at hl
    · rename_i he
      cases hl
      rw [beq_iff_eq] at he
      subst he
      exact d3
    split at hl
    · rename_i he
      cases hl
      rw [beq_iff_eq] at he
      subst he
      exact d4
    split at hl
    · rename_i he
      cases hl
      rw [beq_iff_eq] at he
      subst he
      exact d5
    split at hl
    · rename_i he
      cases hl
      rw [beq_iff_eq] at he
      subst he
      exact d6
    split at hl
    · rename_i he
      cases hl
      rw [beq_iff_eq] at he
      subst he
      exact d7
    split at hl
    · rename_i he
      cases hl
      rw [beq_iff_eq] at he
      subst he
      exact d8
    split at hl
    · rename_i he
      cases hl
      rw [beq_iff_eq] at he
      subst he
      exact d9
    split at hl
    · rename_i he
      cases hl
      rw [beq_iff_eq] at he
      subst he
      exact d10
    split at hl
    · rename_i he
      cases hl
      rw [beq_iff_eq] at he
      subst he
      exact d11
    split at hl
    · rename_i he
      cases hl
      rw [beq_iff_eq] at he
      subst he
      exact d12
    split at hl
    · rename_i he
      cases hl
      rw [beq_iff_eq] at he
      subst he
      exact d13
    split at hl
    · rename_i he
      cases hl
      rw [beq_iff_eq] at he
      subst he
      exact d14
    split at hl
    · rename_i he
      cases hl
      rw [beq_iff_eq] at he
      subst he
      exact d15
    split at hl
    · rename_i he
      cases hl
      rw [beq_iff_eq] at he
      subst he
      exact d16
    split at hl
    · rename_i he
      cases hl
      rw [beq_iff_eq] at he
      subst he
      exact d17
    split at hl
    · rename_i he
      cases hl
      rw [beq_iff_eq] at he
      subst he
      exact d18
    split at hl
    · rename_i he
      cases hl
      rw [beq_iff_eq] at he
      subst he
      exact d19
    split at hl
    · rename_i he
      cases hl
      rw [beq_iff_eq] at he
      subst he
      exact d20
    split at hl
    · rename_i he
      cases hl
      rw [beq_iff_eq] at he
      subst he
      exact d21
    split at hl
    · rename_i he
      cases hl
      rw [beq_iff_eq] at he
      subst he
      exact d22
    split at hl
    · rename_i he
      cases hl
      rw [beq_iff_eq] at he
      subst he
      exact d23
    split at hl
    · rename_i he
      cases hl
      rw [beq_iff_eq] at he
      subst he
      exact d24
    split at hl
    · rename_i he
      cases hl
      rw [beq_iff_eq] at he
      subst he
      exact d25
    split at hl
    · rename_i he
      cases hl
      rw [beq_iff_eq] at he
      subst he
      exact d26
    split at hl
    · rename_i he
      cases hl
      rw [beq_iff_eq] at he
      subst he
      exact d27
    split at hl
    · rename_i he
      cases hl
      rw [beq_iff_eq] at he
      subst he
      exact d28
    split at hl
    · rename_i he
      cases hl
      rw [beq_iff_eq] at he
      subst he
      exact d29
    split at hl
    · rename_i he
      cases hl
      rw [beq_iff_eq] at he
      subst he
      exact d30
    split at hl
    · rename_i he
      cases hl
      rw [beq_iff_eq] at he
      subst he
      exact d31
    split at hl
    · rename_i he
      cases hl
      rw [beq_iff_eq] at he
      subst he
      exact d32
    cases hl
  · have hx : List.lookup x [(("MOST_LETTERS" : Str), gl_MOST_LETTERS), (("MOST_SETS" : Str), gl_MOST_SETS), (("OF_ONE_SET" : Str), gl_OF_ONE_SET), (("OF_TWO_SETS" : Str), gl_OF_TWO_SETS), (("OF_TWO_SAYINGS" : Str), gl_OF_TWO_SAYINGS), (("OF_A_SET" : Str), gl_OF_A_SET)] = some p := hx
    simp only [List.lookup] at hx
    split at hx
    · rename_i he
      cases hx
      rw [beq_iff_eq] at he
      subst he
      exact u_MOST_LETTERS
    split at hx
    · rename_i he
      cases hx
      rw [beq_iff_eq] at he
      subst he
      exact u_MOST_SETS
    split at hx
    · rename_i he
      cases hx
      rw [beq_iff_eq] at he
      subst he
      exact u_OF_ONE_SET
    split at hx
    · rename_i he
      cases hx
      rw [beq_iff_eq] at he
      subst he
      exact u_OF_TWO_SETS
    split at hx
    · rename_i he
      cases hx
      rw [beq_iff_eq] at he
      subst he
      exact u_OF_TWO_SAYINGS
    split at hx
    · rename_i he
      cases hx
      rw [beq_iff_eq] at he
      subst he
      exact u_OF_A_SET
    cases hx
  · have hx : x ∈ [("isinstance" : Str), ("bool" : Str), ("int" : Str), ("len" : Str), ("str" : Str), ("tuple" : Str), ("sorted" : Str), ("list" : Str), ("range" : Str), ("repr" : Str)] := hx
    simp only [List.mem_cons, List.not_mem_nil, or_false] at hx
    rcases hx with rfl | rfl | rfl | rfl | rfl | rfl | rfl | rfl | rfl | rfl
    · exact PySem.W.mg_none_of KX G z0
    · exact PySem.W.mg_none_of KX G z1
    · exact PySem.W.mg_none_of KX G z2
    · exact PySem.W.mg_none_of KX G z3
    · exact PySem.W.mg_none_of KX G z4
    · exact PySem.W.mg_none_of KX G z5
    · exact PySem.W.mg_none_of KX G z6
    · exact PySem.W.mg_none_of KX G z7
    · exact PySem.W.mg_none_of KX G z8
    · exact PySem.W.mg_none_of KX G z9
end L2.K77
open PySem PySem.W PyProof.Rows
set_option maxRecDepth 100000 in
set_option maxHeartbeats 0 in
theorem PySem.Challenge.cw_scatterrows_k77_whole_sayings_known_holds : PySem.Challenge.rw_scatterrows_k77_whole_sayings_known.Holds := by
  w_on; o_law; k_head; (case hw => w_witness2)
  k_fill
  refine L2.Iv.law_true (k := 150) (l := PySem.Challenge.rw_scatterrows_k77_whole_sayings_known) (g := L2.K77.sg) (x := "script") rfl rfl ⟨rfl, by decide, by decide⟩ (fun w h Y => PySem.W.kIn_of Y) L2.K77.at_law rfl ?F L2.K77.law_ok
  case F =>
    intro w mg fa h KX G hmg
    refine' L2.K77.prg KX G (L2.K77.def_is_integer KX G ?n0 ?l0 ?c0 ?k0) (L2.K77.def_is_between KX G ?n1 ?l1 ?c1 ?k1) (L2.K77.def_check_letters KX G ?n2 ?l2 ?c2 ?k2) (L2.K77.def_is_set_name KX G ?n3 ?l3 ?c3 ?k3) (L2.K77.def_are_names KX G ?n4 ?l4 ?c4 ?k4) (L2.K77.def_must_be KX G ?n5 ?l5 ?c5 ?k5) (L2.K77.def_is_saying_of KX G ?n6 ?l6 ?c6 ?k6) (L2.K77.def_check_saying KX G ?n7 ?l7 ?c7 ?k7) (L2.K77.def_inner_parts KX G ?n8 ?l8 ?c8 ?k8) (L2.K77.def_is_atom KX G ?n9 ?l9 ?c9 ?k9) (L2.K77.def_free_of KX G ?n10 ?l10 ?c10 ?k10) (L2.K77.def_parts_of KX G ?n11 ?l11 ?c11 ?k11) (L2.K77.def_is_saying KX G ?n12 ?l12 ?c12 ?k12) (L2.K77.def_free_sets KX G ?n13 ?l13 ?c13 ?k13) (L2.K77.def_parts KX G ?n14 ?l14 ?c14 ?k14) (L2.K77.def__law_mixed KX G ?n15 ?l15 ?c15 ?k15) (L2.K77.def__law_source KX G ?n16 ?l16 ?c16 ?k16) (L2.K77.def__law_draw KX G ?n17 ?l17 ?c17 ?k17) (L2.K77.def__law_atom KX G ?n18 ?l18 ?c18 ?k18) (L2.K77.def__law_saying KX G ?n19 ?l19 ?c19 ?k19) (L2.K77.def__law_named KX G ?n20 ?l20 ?c20 ?k20) (L2.K77.def__law_free KX G ?n21 ?l21 ?c21 ?k21) (L2.K77.def__law_bad_number KX G ?n22 ?l22 ?c22 ?k22) (L2.K77.def__law_odd KX G ?n23 ?l23 ?c23 ?k23) (L2.K77.def__law_word KX G ?n24 ?l24 ?c24 ?k24) (L2.K77.def__law_spoilt KX G ?n25 ?l25 ?c25 ?k25) (L2.K77.def__law_below KX G ?n26 ?l26 ?c26 ?k26) (L2.K77.def__law_is_right KX G ?n27 ?l27 ?c27 ?k27) (L2.K77.def__law_parts KX G ?n28 ?l28 ?c28 ?k28) (L2.K77.def__law_is_told KX G ?n29 ?l29 ?c29 ?k29) (L2.K77.def__law_free_told KX G ?n30 ?l30 ?c30 ?k30) (L2.K77.def__law_parts_told KX G ?n31 ?l31 ?c31 ?k31) (L2.K77.def_law KX G ?n32 ?l32 ?c32 ?k32) ?z0 ?z1 ?z2 ?z3 ?z4 ?z5 ?z6 ?z7 ?z8 ?z9 (L2.K77.glb_MOST_LETTERS KX G ?g_MOST_LETTERS) (L2.K77.glb_MOST_SETS KX G ?g_MOST_SETS) (L2.K77.glb_OF_ONE_SET KX G ?g_OF_ONE_SET ?o_OF_ONE_SET) (L2.K77.glb_OF_TWO_SETS KX G ?g_OF_TWO_SETS ?o_OF_TWO_SETS) (L2.K77.glb_OF_TWO_SAYINGS KX G ?g_OF_TWO_SAYINGS ?o_OF_TWO_SAYINGS) (L2.K77.glb_OF_A_SET KX G ?g_OF_A_SET ?o_OF_A_SET) (L2.K77.errs KX G ?aC0 ?aC1 ?aC2 ?xL0 ?xL1 ?xL2 ?iC0 ?iC1 ?iC2 ?li ?ci ?ki ?ti ?vV ?nV ?eV ?cg ?ct ?sa0 ?ga0 ?gg0 ?nv0 ?ca0 ?kC0 ?eC0 ?vC0 ?tC0 ?hC0 ?yC0 ?mC0 ?zC0 ?sa1 ?ga1 ?gg1 ?nv1 ?ca1 ?kC1 ?eC1 ?vC1 ?tC1 ?hC1 ?yC1 ?mC1 ?zC1 ?sa2 ?ga2 ?gg2 ?nv2 ?ca2 ?kC2 ?eC2 ?vC2 ?tC2 ?hC2 ?yC2 ?mC2 ?zC2 ?s0_0 ?s0_1 ?s0_2 ?s1_0 ?s1_1 ?s1_2 ?s2_0 ?s2_1 ?s2_2)
    (case n0 => k_is)
    (case l0 => k_is)
    (case c0 => k_is)
    (case k0 => k_is)
    (case n1 => k_is)
    (case l1 => k_is)
    (case c1 => k_is)
    (case k1 => k_is)
    (case n2 => k_is)
    (case l2 => k_is)
    (case c2 => k_is)
    (case k2 => k_is)
    (case n3 => k_is)
    (case l3 => k_is)
    (case c3 => k_is)
    (case k3 => k_is)
    (case n4 => k_is)
    (case l4 => k_is)
    (case c4 => k_is)
    (case k4 => k_is)
    (case n5 => k_is)
    (case l5 => k_is)
    (case c5 => k_is)
    (case k5 => k_is)
    (case n6 => k_is)
    (case l6 => k_is)
    (case c6 => k_is)
    (case k6 => k_is)
    (case n7 => k_is)
    (case l7 => k_is)
    (case c7 => k_is)
    (case k7 => k_is)
    (case n8 => k_is)
    (case l8 => k_is)
    (case c8 => k_is)
    (case k8 => k_is)
    (case n9 => k_is)
    (case l9 => k_is)
    (case c9 => k_is)
    (case k9 => k_is)
    (case n10 => k_is)
    (case l10 => k_is)
    (case c10 => k_is)
    (case k10 => k_is)
    (case n11 => k_is)
    (case l11 => k_is)
    (case c11 => k_is)
    (case k11 => k_is)
    (case n12 => k_is)
    (case l12 => k_is)
    (case c12 => k_is)
    (case k12 => k_is)
    (case n13 => k_is)
    (case l13 => k_is)
    (case c13 => k_is)
    (case k13 => k_is)
    (case n14 => k_is)
    (case l14 => k_is)
    (case c14 => k_is)
    (case k14 => k_is)
    (case n15 => k_is)
    (case l15 => k_is)
    (case c15 => k_is)
    (case k15 => k_is)
    (case n16 => k_is)
    (case l16 => k_is)
    (case c16 => k_is)
    (case k16 => k_is)
    (case n17 => k_is)
    (case l17 => k_is)
    (case c17 => k_is)
    (case k17 => k_is)
    (case n18 => k_is)
    (case l18 => k_is)
    (case c18 => k_is)
    (case k18 => k_is)
    (case n19 => k_is)
    (case l19 => k_is)
    (case c19 => k_is)
    (case k19 => k_is)
    (case n20 => k_is)
    (case l20 => k_is)
    (case c20 => k_is)
    (case k20 => k_is)
    (case n21 => k_is)
    (case l21 => k_is)
    (case c21 => k_is)
    (case k21 => k_is)
    (case n22 => k_is)
    (case l22 => k_is)
    (case c22 => k_is)
    (case k22 => k_is)
    (case n23 => k_is)
    (case l23 => k_is)
    (case c23 => k_is)
    (case k23 => k_is)
    (case n24 => k_is)
    (case l24 => k_is)
    (case c24 => k_is)
    (case k24 => k_is)
    (case n25 => k_is)
    (case l25 => k_is)
    (case c25 => k_is)
    (case k25 => k_is)
    (case n26 => k_is)
    (case l26 => k_is)
    (case c26 => k_is)
    (case k26 => k_is)
    (case n27 => k_is)
    (case l27 => k_is)
    (case c27 => k_is)
    (case k27 => k_is)
    (case n28 => k_is)
    (case l28 => k_is)
    (case c28 => k_is)
    (case k28 => k_is)
    (case n29 => k_is)
    (case l29 => k_is)
    (case c29 => k_is)
    (case k29 => k_is)
    (case n30 => k_is)
    (case l30 => k_is)
    (case c30 => k_is)
    (case k30 => k_is)
    (case n31 => k_is)
    (case l31 => k_is)
    (case c31 => k_is)
    (case k31 => k_is)
    (case n32 => k_is)
    (case l32 => k_is)
    (case c32 => k_is)
    (case k32 => k_is)
    (case z0 => k_is)
    (case z1 => k_is)
    (case z2 => k_is)
    (case z3 => k_is)
    (case z4 => k_is)
    (case z5 => k_is)
    (case z6 => k_is)
    (case z7 => k_is)
    (case z8 => k_is)
    (case z9 => k_is)
    (case g_MOST_LETTERS => k_is)
    (case g_MOST_SETS => k_is)
    (case g_OF_ONE_SET => k_is)
    (case o_OF_ONE_SET => k_is)
    (case g_OF_TWO_SETS => k_is)
    (case o_OF_TWO_SETS => k_is)
    (case g_OF_TWO_SAYINGS => k_is)
    (case o_OF_TWO_SAYINGS => k_is)
    (case g_OF_A_SET => k_is)
    (case o_OF_A_SET => k_is)
    (case aC0 => k_is)
    (case aC1 => k_is)
    (case aC2 => k_is)
    (case xL0 => k_is)
    (case xL1 => k_is)
    (case xL2 => k_is)
    (case iC0 => k_is)
    (case iC1 => k_is)
    (case iC2 => k_is)
    (case li => k_is)
    (case ci => k_is)
    (case ki => k_is)
    (case ti => k_is)
    (case vV => k_is)
    (case nV => k_is)
    (case eV => k_is)
    (case cg => k_is)
    (case ct => k_is)
    (case sa0 => k_is)
    (case ga0 => k_is)
    (case gg0 => k_is)
    (case nv0 => k_is)
    (case ca0 => k_is)
    (case kC0 => k_is)
    (case eC0 => k_is)
    (case vC0 => k_is)
    (case tC0 => k_is)
    (case hC0 => k_is)
    (case yC0 => k_is)
    (case mC0 => k_is)
    (case zC0 => k_is)
    (case sa1 => k_is)
    (case ga1 => k_is)
    (case gg1 => k_is)
    (case nv1 => k_is)
    (case ca1 => k_is)
    (case kC1 => k_is)
    (case eC1 => k_is)
    (case vC1 => k_is)
    (case tC1 => k_is)
    (case hC1 => k_is)
    (case yC1 => k_is)
    (case mC1 => k_is)
    (case zC1 => k_is)
    (case sa2 => k_is)
    (case ga2 => k_is)
    (case gg2 => k_is)
    (case nv2 => k_is)
    (case ca2 => k_is)
    (case kC2 => k_is)
    (case eC2 => k_is)
    (case vC2 => k_is)
    (case tC2 => k_is)
    (case hC2 => k_is)
    (case yC2 => k_is)
    (case mC2 => k_is)
    (case zC2 => k_is)
    (case s0_0 => first | rfl | k_is)
    (case s0_1 => first | rfl | k_is)
    (case s0_2 => first | rfl | k_is)
    (case s1_0 => first | rfl | k_is)
    (case s1_1 => first | rfl | k_is)
    (case s1_2 => first | rfl | k_is)
    (case s2_0 => first | rfl | k_is)
    (case s2_1 => first | rfl | k_is)
    (case s2_2 => first | rfl | k_is)
#print axioms PySem.Challenge.cw_scatterrows_k77_whole_sayings_known_holds

